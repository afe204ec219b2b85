import PyProof.Rows.All
import Wide.All
import OpenK.AllK
import Wide.FinOn
import HandS.ForMost
import KE.KeyNested
import KE.KDictKeyed
import HandS.ForExc
import HandS.Defaults
import HandS.Deep
import HandS.HeadHook1
import HandS.HeadHook2
import HandS.HeadHook3
import HandS.HeadHook4
import HandS.Lambda
import HandS.ExcCtx
import HandS.HotCalls
import KE.DataEq
import HandS.WideBits
import HandS.Wide
import HandS.TupMul
import KE.SortData
import HandS.Zip
import HandS.Comp
import HandS.MakeKw
import HandS.Property
import HandS.Star
import HandS.More
import HandS.ExcOwn
import KE.DatumOrd
import HandS.IsInst
import PyProof.ReprReads
import KE.SortKeyHeap
import KE.KLam
import HandS.Style
import HandS.Iter
import HandS.TupAny
import HandS.Conv
import PyProof.ReprRoads
import HandS.DeepEq
import KE.KEqNest
import HandS.Codes
import KE.KExcSuper
import KE.KExcIs
import KE.KIsAll
import HandS.ExcInit
import HandS.ExcSuper
import HandS.ExcValue
import HandS.Text
import PyProof.Rows.CountFlat
import HandS.TryOnly
import PyProof.StrOps2
import KE.KxAffix
import KE.IntTextText
import HandS.DictComp
import HandS.Dict
import KE.KDictList
import KE.KDictZip
import HandS.ListItems
import PyProof.ListStr
import PyProof.ListMulRoad
import PyProof.FactsAll.tuple_2
import KE.KDictPairs
import PyProof.Rows.TupIter
import HandS.TupSets
import HandS.SetKeys
import HandS.DictTup
import KE.KDictDisplayH
import HandS.Flow
import KE.GoesMore
import KE.GoesEnum
import HandS.SetFor
import HandS.SetTxt0
import HandS.Strs
import PyProof.Rows.SortShellAny
import PyProof.NeKinds
import KE.DataCmp
import HandS.Finally
import HandS.Small
import HandS.HeadWalk
import HandS.NestedK
import HandS.Head2
import KE.IntBitsLaws
import PySem.Challenge.RW_farreads_k30_greatest_shifts
set_option Elab.async false
set_option linter.all false
set_option maxRecDepth 100000
set_option maxHeartbeats 4000000
/-! VM0: which defs hold lambdas (specialised for each proof): the def, its lambda's name. -/
namespace VM
open PySem PySem.Spec PyProof.Rows L2
def tfs : List (He.Defn × Str) := [(("System", some "__init__"), "System.__init__.<locals>.<lambda>")]
/-- the classes that isinstance is asked of -/
def xcs : List Str := ["System"]
end VM

/-! VM1: values as trees over the hand layer: EV, what it says of V and Hp (Rp), states (Rl), steps, readings of shallow terms (U, US). -/
namespace VM
open PySem PySem.Spec PyProof.Rows L2

/-- room for k calls, and no repr is under way -/
structure RoomG (k : Nat) (A : Around) : Prop where
  r : Room k A
  g : A.guards = some []
namespace RoomG
variable {i k : Nat} {A : Around}
theorem mono (h : RoomG k A) (l : i ≤ k) : RoomG i A := ⟨h.r.mono l, h.g⟩
theorem deeper (h : RoomG (k + 1) A) (v : Env) : RoomG k (A.deeper v) := ⟨h.r.deeper v, h.g⟩
theorem in1 (h : RoomG (k + 1) A) : RoomG k A.in1 := ⟨h.r.in1, h.g⟩
theorem make (h : RoomG (k + 1) A) (c : Addr) (as : List Value) (kw : List (Str × Value)) : RoomG k (A.under (.builtin "type.__call__" ⟨.ref c :: as, kw⟩)) :=
  ⟨h.r.make c as kw, by show pushGuards (Code.guards (.builtin "type.__call__" ⟨.ref c :: as, kw⟩)) A.guards = _; rw [h.g]; rfl⟩
theorem hd (h : RoomG k A) : A.handled = none := h.r.hd
theorem units (h : RoomG k A) : A.units + 64 < cLine := h.r.units
theorem dp (h : RoomG k A) : A.depth + 3 * k + 5 < recursionLimit := h.r.dp
end RoomG

/-- the tables of code objects, by the defs that make lambdas -/
def tabT (K : PySem.W.Frag) : List (Addr × Str) := tfs.map fun p => ((He.cT K p.1).2, p.2)

/-- what the names of the module stand for, and the world (its hashes) -/
structure MW where
  m : Str → Option Value
  w : World
instance : CoeFun MW (fun _ => Str → Option Value) := ⟨MW.m⟩
abbrev _root_.L2.Cx.mw (X : Cx) : MW := ⟨X.mg, X.w⟩

inductive EV where
  | non | bl (b : Bool) | int (i : Int) | str (x : Str) | ty (n : String)
  | ref (a : Addr) | glo (x : Str) | scr (ns : List Int)
  | tup (xs : List EV) | lst (xs : List EV) | dct (kvs : List (Key × EV)) | obj (C : Str) (fs : List (Str × EV)) | exc (C : Str) (x : EV) | exa (a : Addr) (C : Str) (x : EV) | dn (kvs : List (NestedKey × EV))
  deriving Inhabited
inductive EO where
  | lst (xs : List EV) | dct (kvs : List (Key × EV)) | ins (C : Str) (fs : List (Str × EV)) | dN (kvs : List (NestedKey × EV))
abbrev Es := List (Option EV)
abbrev Eh := Addr → Option EO
def eupd (h : Eh) (a : Addr) (o : Option EO) : Eh := fun b => if b = a then o else h b
theorem eupd_same {h : Eh} {a : Addr} {o : Option EO} : eupd h a o a = o := by simp [eupd]
theorem eupd_ne {h : Eh} {a b : Addr} {o : Option EO} (n : b ≠ a) : eupd h a o b = h b := by simp [eupd, n]
theorem eupd_eupd {h : Eh} {a : Addr} {o u : Option EO} : eupd (eupd h a o) a u = eupd h a u := by funext b; unfold eupd; split <;> rfl
theorem eupd_self {h : Eh} {a : Addr} {o : Option EO} (e : h a = o) : eupd h a o = h := by
  funext b; unfold eupd; split
  · rename_i z; rw [z, e]
  · rfl

/-- an exception that is held: its class, its dict -/
abbrev exh (a : Addr) (cls : Value) (d : Option Addr) : HO := .ext fun h => ∃ (oe : Obj) (vs : Array Value), h.get? a = some oe ∧ L2N.Zn cls d oe ∧ oe.data = .fields vs
mutual
/-- the key a value stands for -/
def KeyIs (K : PySem.W.Frag) (H : Hp) : NestedKey → V → Prop
  | .none, v => v = .non
  | .num i, v => v = .int i
  | .text x, v => v = .str x
  | .tup ks, v => ∃ a vs, v = .ref a ∧ SqT K H a vs ∧ KeysAre K H ks vs
def KeysAre (K : PySem.W.Frag) (H : Hp) : List NestedKey → List V → Prop
  | [], vs => vs = []
  | k :: ks, vs => ∃ v r, vs = v :: r ∧ KeyIs K H k v ∧ KeysAre K H ks r
end
/-- a dict whose keys are tuples (of tuples) of ints, texts and None: its entries -/
abbrev dictN (w : World) (a : Addr) (xs : List (NestedKey × Addr × Value)) : HO := .ext fun h => ∃ o es ep, h.get? a = some o ∧ o.ExactDict ∧ o.data = .dict es ep ∧ es.toList = xs.map (fun x => (⟨x.1.hash w, .ref x.2.1, x.2.2⟩ : DictEntry)) ∧ (xs.map (·.1)).Nodup
/-- a list that nobody writes -/
def ScrAt (K : PySem.W.Frag) (Hd : Addr → Prop) (eh : Eh) (H : Hp) (a : Addr) (vs : List V) : Prop :=
  (∃ o, H a = some (.frz o (.lst vs))) ∨ (H a = some (.lst vs) ∧ eh a = none ∧ ¬ Hd a) ∨
    ∃ (o : Obj) (its : Array Value) (n : Nat), K.lookup a = some o ∧ o.cls = .type "list" ∧ o.dict = none ∧ o.data = .seq its n ∧ its.size ≤ sizeLine ∧ Vals vs its.toList
section
variable (K : PySem.W.Frag) (mg : MW) (Hd : Addr → Prop) (eh : Eh) (H : Hp)
mutual
def Rp : EV → V → Prop
  | .non, v => v = .non
  | .bl b, v => v = .bl b
  | .int i, v => v = .int i
  | .str x, v => v = .str x
  | .ty n, v => v = .ty n
  | .ref a, v => v = .ref a
  | .glo x, v => ∃ u, mg x = some u ∧ RelV v u
  | .tup xs, v => ∃ a vs, v = .ref a ∧ SqT K H a vs ∧ RpL xs vs
  | .scr ns, v => ∃ a, v = .ref a ∧ ScrAt K Hd eh H a (ns.map V.int)
  | .lst xs, v => ∃ a vs, v = .ref a ∧ H a = some (.lst vs) ∧ (eh a = none ∧ ¬ Hd a) ∧ RpL xs vs
  | .dct kvs, v => ∃ a o us, v = .ref a ∧ H a = some (.frz o (.dK us)) ∧ RpK kvs us
  | .obj C fs, v => ∃ a c dx us, v = .ref a ∧ mg C = some (.ref c) ∧ H a = some (.ins c dx us) ∧ (eh a = none ∧ ¬ Hd a) ∧ RpF fs us
  | .exc C x, v => ∃ a c d u, v = .ref a ∧ mg C = some (.ref c) ∧ H a = some (exh a (.ref c) (some d)) ∧ H d = some (.xd [("value", u)]) ∧ (eh a = none ∧ ¬ Hd a) ∧ (eh d = none ∧ ¬ Hd d) ∧ Rp x u
  | .exa b C x, v => ∃ a c d u, (v = .ref a ∧ b = a) ∧ mg C = some (.ref c) ∧ H a = some (exh a (.ref c) (some d)) ∧ H d = some (.xd [("value", u)]) ∧ (eh a = none ∧ ¬ Hd a) ∧ (eh d = none ∧ ¬ Hd d) ∧ Rp x u
  | .dn kvs, v => ∃ (a : Addr) (o : Obj) (xs : List (NestedKey × Addr × Value)) (us : List V), v = .ref a ∧ H a = some (.frz o (dictN mg.w a xs)) ∧ ((a == sysModules) = false ∧ xs.length ≤ sizeLine ∧ kvs.map (·.1) = xs.map (·.1) ∧ (∀ x ∈ xs, KeyIs K H x.1 (.ref x.2.1) ∧ x.1.depth ≤ 8) ∧ Vals us (xs.map (·.2.2))) ∧ RpN kvs us
def RpL : List EV → List V → Prop
  | [], vs => vs = []
  | x :: xs, vs => ∃ v r, vs = v :: r ∧ Rp x v ∧ RpL xs r
def RpK : List (Key × EV) → List (Key × V) → Prop
  | [], us => us = []
  | (k, x) :: ps, us => ∃ v r, us = (k, v) :: r ∧ Rp x v ∧ RpK ps r
def RpF : List (Str × EV) → List (Str × V) → Prop
  | [], us => us = []
  | (k, x) :: ps, us => ∃ v r, us = (k, v) :: r ∧ Rp x v ∧ RpF ps r
def RpN : List (NestedKey × EV) → List V → Prop
  | [], us => us = []
  | (_, x) :: ps, us => ∃ v r, us = v :: r ∧ Rp x v ∧ RpN ps r
end
def RpO (a : Addr) : EO → Prop
  | .lst xs => ∃ vs, H a = some (.lst vs) ∧ RpL K mg Hd eh H xs vs
  | .dct kvs => ∃ us, H a = some (.dK us) ∧ RpK K mg Hd eh H kvs us
  | .ins C fs => ∃ c dx us, mg C = some (.ref c) ∧ H a = some (.ins c dx us) ∧ RpF K mg Hd eh H fs us
  | .dN kvs => ∃ (xs : List (NestedKey × Addr × Value)) (us : List V), H a = some (dictN mg.w a xs) ∧ (a == sysModules) = false ∧ xs.length ≤ sizeLine ∧ kvs.map (·.1) = xs.map (·.1) ∧ (∀ x ∈ xs, KeyIs K H x.1 (.ref x.2.1) ∧ x.1.depth ≤ 8) ∧ Vals us (xs.map (·.2.2)) ∧ RpL K mg Hd eh H (kvs.map (·.2)) us
structure Rh : Prop where
  tb : LamX.Tabs (tabT K) H
  ob : ∀ a o, eh a = some o → RpO K mg Hd eh H a o
  hd : ∀ a, Hd a → (∃ vs, H a = some (.lst vs)) ∧ eh a = none
structure Rl (es : Es) (σ : L2.St) : Prop where
  len : es.length = σ.length
  loc : ∀ (i : Nat) (x : EV), es[i]? = some (some x) → ∃ v, σ[i]? = some (some v) ∧ Rp K mg Hd eh H x v
  obj : Rh K mg Hd eh H
end

mutual
theorem KeyIs.ext {K : PySem.W.Frag} {H H' : Hp} (e : ∀ a vs, SqT K H a vs → SqT K H' a vs) : ∀ {k : NestedKey} {v : V}, KeyIs K H k v → KeyIs K H' k v
  | .none, _, h => h
  | .num _, _, h => h
  | .text _, _, h => h
  | .tup _, _, ⟨a, vs, z, h, r⟩ => ⟨a, vs, z, e a vs h, KeysAre.ext e r⟩
theorem KeysAre.ext {K : PySem.W.Frag} {H H' : Hp} (e : ∀ a vs, SqT K H a vs → SqT K H' a vs) : ∀ {k : List NestedKey} {v : List V}, KeysAre K H k v → KeysAre K H' k v
  | [], _, h => h
  | _ :: _, _, ⟨v, r, z, h, t⟩ => ⟨v, r, z, KeyIs.ext e h, KeysAre.ext e t⟩
end
theorem dictN_ne {w : World} {a c : Addr} {xs : List (NestedKey × Addr × Value)} {q : Str} : dictN w a xs ≠ LamX.CodeO c q := fun z => by
  have e := HO.ext.inj z
  let ob : Obj := { cls := .none, data := .fields #[.none, .str q 0] }
  let h0 : Heap := { objs := Array.replicate (c + 1) ob }
  have g : ∀ b o, h0.get? b = some o → o = ob := fun b o hb => by
    unfold Heap.get? at hb
    have r : h0.objs[b]? = none ∨ h0.objs[b]? = some ob := by
      show (Array.replicate (c + 1) ob)[b]? = none ∨ (Array.replicate (c + 1) ob)[b]? = some ob
      rw [Array.getElem?_replicate]
      split
      · exact .inr rfl
      · exact .inl rfl
    rcases r with r | r
    · rw [r] at hb; cases hb
    · rw [r] at hb; cases hb; rfl
  have hc : h0.get? c = some ob := by
    unfold Heap.get?
    have r : h0.objs[c]? = some ob := by
      show (Array.replicate (c + 1) ob)[c]? = some ob
      rw [Array.getElem?_replicate, if_pos (Nat.lt_succ_self c)]
    rw [r]
  have y := congrFun e h0
  have p : ∃ (oc : Obj) (vs : Array Value) (t : Tok), h0.get? c = some oc ∧ oc.data = .fields vs ∧ vs[1]? = some (.str q t) := ⟨ob, _, 0, hc, rfl, rfl⟩
  rw [← y] at p
  obtain ⟨o, es, ep, h1, _, h2, _⟩ := p
  rw [g a o h1] at h2
  cases h2

structure Step (eh : Eh) (H : Hp) (eh' : Eh) (H' : Hp) : Prop where
  st : ∀ a o, H a = some o → eh a = none → (∀ ps, o ≠ .tbl ps) → H' a = some o ∧ eh' a = none
  tup : ∀ a xs, H a = some (.tup xs) → H' a = some (.tup xs)
  frz : ∀ a o u, H a = some (.frz o u) → H' a = some (.frz o u)
theorem Step.refl {eh : Eh} {H : Hp} : Step eh H eh H := ⟨fun _ _ h n _ => ⟨h, n⟩, fun _ _ h => h, fun _ _ _ h => h⟩
theorem Step.trans {eh eh1 eh2 : Eh} {H H1 H2 : Hp} (a : Step eh H eh1 H1) (b : Step eh1 H1 eh2 H2) : Step eh H eh2 H2 :=
  ⟨fun c o h n t => let ⟨h1, n1⟩ := a.st c o h n t; b.st c o h1 n1 t, fun c xs h => b.tup c xs (a.tup c xs h), fun c o u h => b.frz c o u (a.frz c o u h)⟩

/-- the same, but for what is hidden -/
structure StepW (Hd : Addr → Prop) (eh : Eh) (H : Hp) (eh' : Eh) (H' : Hp) : Prop where
  st : ∀ a o, H a = some o → eh a = none → (∀ ps, o ≠ .tbl ps) → ¬ Hd a → H' a = some o ∧ eh' a = none
  tup : ∀ a xs, H a = some (.tup xs) → H' a = some (.tup xs)
  frz : ∀ a o u, H a = some (.frz o u) → H' a = some (.frz o u)
theorem Step.w {Hd : Addr → Prop} {eh eh' : Eh} {H H' : Hp} (s : Step eh H eh' H') : StepW Hd eh H eh' H' := ⟨fun a o h n t _ => s.st a o h n t, s.tup, s.frz⟩
theorem StepW.trans {Hd : Addr → Prop} {eh eh1 eh2 : Eh} {H H1 H2 : Hp} (a : StepW Hd eh H eh1 H1) (b : StepW Hd eh1 H1 eh2 H2) : StepW Hd eh H eh2 H2 :=
  ⟨fun c o h n t m => let ⟨h1, n1⟩ := a.st c o h n t m; b.st c o h1 n1 t m, fun c xs h => b.tup c xs (a.tup c xs h), fun c o u h => b.frz c o u (a.frz c o u h)⟩
section
variable {K : PySem.W.Frag} {mg : MW} {Hd : Addr → Prop} {eh eh' : Eh} {H H' : Hp}
theorem SqT.stepW (s : StepW Hd eh H eh' H') {a : Addr} {vs : List V} (h : SqT K H a vs) : SqT K H' a vs := by
  rcases h with (h | ⟨o, h⟩) | h
  · exact .inl (.inl (s.tup _ _ h))
  · exact .inl (.inr ⟨o, s.frz _ _ _ h⟩)
  · exact .inr h
mutual
theorem Rp.stepW (s : StepW Hd eh H eh' H') : ∀ {x : EV} {v : V}, Rp K mg Hd eh H x v → Rp K mg Hd eh' H' x v
  | .non, _, h => h
  | .bl _, _, h => h
  | .int _, _, h => h
  | .str _, _, h => h
  | .ty _, _, h => h
  | .ref _, _, h => h
  | .glo _, _, h => h
  | .tup xs, _, ⟨a, vs, e, h, r⟩ => ⟨a, vs, e, SqT.stepW s h, RpL.stepW s r⟩
  | .scr ns, _, ⟨a, e, h⟩ => ⟨a, e, by
    rcases h with ⟨o, h⟩ | ⟨h, n, m⟩ | h
    · exact .inl ⟨o, s.frz _ _ _ h⟩
    · exact .inr (.inl ⟨(s.st _ _ h n (fun _ z => nomatch z) m).1, (s.st _ _ h n (fun _ z => nomatch z) m).2, m⟩)
    · exact .inr (.inr h)⟩
  | .lst xs, _, ⟨a, vs, e, h, n, r⟩ => ⟨a, vs, e, (s.st _ _ h n.1 (fun _ z => nomatch z) n.2).1, ⟨(s.st _ _ h n.1 (fun _ z => nomatch z) n.2).2, n.2⟩, RpL.stepW s r⟩
  | .dct xs, _, ⟨a, o, vs, e, h, r⟩ => ⟨a, o, vs, e, s.frz _ _ _ h, RpK.stepW s r⟩
  | .obj C fs, _, ⟨a, c, dx, us, e, m, h, n, r⟩ => ⟨a, c, dx, us, e, m, (s.st _ _ h n.1 (fun _ z => nomatch z) n.2).1, ⟨(s.st _ _ h n.1 (fun _ z => nomatch z) n.2).2, n.2⟩, RpF.stepW s r⟩
  | .exc C x, _, ⟨a, c, d, u, e, m, h, h', n, n', r⟩ => ⟨a, c, d, u, e, m, (s.st _ _ h n.1 (fun _ z => nomatch z) n.2).1, (s.st _ _ h' n'.1 (fun _ z => nomatch z) n'.2).1, ⟨(s.st _ _ h n.1 (fun _ z => nomatch z) n.2).2, n.2⟩, ⟨(s.st _ _ h' n'.1 (fun _ z => nomatch z) n'.2).2, n'.2⟩, Rp.stepW s r⟩
  | .exa _ C x, _, ⟨a, c, d, u, e, m, h, h', n, n', r⟩ => ⟨a, c, d, u, e, m, (s.st _ _ h n.1 (fun _ z => nomatch z) n.2).1, (s.st _ _ h' n'.1 (fun _ z => nomatch z) n'.2).1, ⟨(s.st _ _ h n.1 (fun _ z => nomatch z) n.2).2, n.2⟩, ⟨(s.st _ _ h' n'.1 (fun _ z => nomatch z) n'.2).2, n'.2⟩, Rp.stepW s r⟩
  | .dn xs, _, ⟨a, o, ys, us, e, h, ⟨z1, z2, z3, z4, z5⟩, r⟩ => ⟨a, o, ys, us, e, s.frz _ _ _ h, ⟨z1, z2, z3, fun x hx => ⟨(z4 x hx).1.ext fun _ _ w => SqT.stepW s w, (z4 x hx).2⟩, z5⟩, RpN.stepW s r⟩
theorem RpL.stepW (s : StepW Hd eh H eh' H') : ∀ {x : List EV} {v : List V}, RpL K mg Hd eh H x v → RpL K mg Hd eh' H' x v
  | [], _, h => h
  | _ :: _, _, ⟨v, r, e, h, t⟩ => ⟨v, r, e, Rp.stepW s h, RpL.stepW s t⟩
theorem RpK.stepW (s : StepW Hd eh H eh' H') : ∀ {x : List (Key × EV)} {v : List (Key × V)}, RpK K mg Hd eh H x v → RpK K mg Hd eh' H' x v
  | [], _, h => h
  | (_, _) :: _, _, ⟨v, r, e, h, t⟩ => ⟨v, r, e, Rp.stepW s h, RpK.stepW s t⟩
theorem RpF.stepW (s : StepW Hd eh H eh' H') : ∀ {x : List (Str × EV)} {v : List (Str × V)}, RpF K mg Hd eh H x v → RpF K mg Hd eh' H' x v
  | [], _, h => h
  | (_, _) :: _, _, ⟨v, r, e, h, t⟩ => ⟨v, r, e, Rp.stepW s h, RpF.stepW s t⟩
theorem RpN.stepW (s : StepW Hd eh H eh' H') : ∀ {x : List (NestedKey × EV)} {v : List V}, RpN K mg Hd eh H x v → RpN K mg Hd eh' H' x v
  | [], _, h => h
  | (_, _) :: _, _, ⟨v, r, e, h, t⟩ => ⟨v, r, e, Rp.stepW s h, RpN.stepW s t⟩
end
theorem SqT.step (s : Step eh H eh' H') {a : Addr} {vs : List V} (h : SqT K H a vs) : SqT K H' a vs := SqT.stepW (Hd := fun _ => False) s.w h
theorem Rp.step (s : Step eh H eh' H') {x : EV} {v : V} (h : Rp K mg Hd eh H x v) : Rp K mg Hd eh' H' x v := h.stepW s.w
theorem RpL.step (s : Step eh H eh' H') {x : List EV} {v : List V} (h : RpL K mg Hd eh H x v) : RpL K mg Hd eh' H' x v := h.stepW s.w
theorem RpK.step (s : Step eh H eh' H') {x : List (Key × EV)} {v : List (Key × V)} (h : RpK K mg Hd eh H x v) : RpK K mg Hd eh' H' x v := h.stepW s.w
theorem RpF.step (s : Step eh H eh' H') {x : List (Str × EV)} {v : List (Str × V)} (h : RpF K mg Hd eh H x v) : RpF K mg Hd eh' H' x v := h.stepW s.w
theorem ScrAt.sq {K : PySem.W.Frag} {Hd : Addr → Prop} {eh : Eh} {H : Hp} {a : Addr} {vs : List V} (h : ScrAt K Hd eh H a vs) : SqL K H a vs := by
  rcases h with h | ⟨h, _⟩ | h
  · exact .inl (.inr h)
  · exact .inl (.inl h)
  · exact .inr h
/-- more is hidden, of what was not there -/
theorem hid_ok {Hd Hd' : Addr → Prop} {eh : Eh} {H : Hp} (i : ∀ a, Hd' a → Hd a ∨ H a = none) {a : Addr} {o : HO} (h : H a = some o) (n : ¬ Hd a) : ¬ Hd' a := fun z => by
  rcases i a z with z | z
  · exact n z
  · rw [h] at z; cases z
mutual
theorem Rp.hid {Hd Hd' : Addr → Prop} (i : ∀ a, Hd' a → Hd a ∨ H a = none) : ∀ {x : EV} {v : V}, Rp K mg Hd eh H x v → Rp K mg Hd' eh H x v
  | .non, _, h => h
  | .bl _, _, h => h
  | .int _, _, h => h
  | .str _, _, h => h
  | .ty _, _, h => h
  | .ref _, _, h => h
  | .glo _, _, h => h
  | .tup xs, _, ⟨a, vs, e, h, r⟩ => ⟨a, vs, e, h, RpL.hid i r⟩
  | .scr ns, _, ⟨a, e, h⟩ => ⟨a, e, by
    rcases h with ⟨o, h⟩ | ⟨h, n, m⟩ | h
    · exact .inl ⟨o, h⟩
    · exact .inr (.inl ⟨h, n, hid_ok (eh := eh) i h m⟩)
    · exact .inr (.inr h)⟩
  | .lst xs, _, ⟨a, vs, e, h, n, r⟩ => ⟨a, vs, e, h, ⟨n.1, hid_ok (eh := eh) i h n.2⟩, RpL.hid i r⟩
  | .dct xs, _, ⟨a, o, vs, e, h, r⟩ => ⟨a, o, vs, e, h, RpK.hid i r⟩
  | .obj C fs, _, ⟨a, c, dx, us, e, m, h, n, r⟩ => ⟨a, c, dx, us, e, m, h, ⟨n.1, hid_ok (eh := eh) i h n.2⟩, RpF.hid i r⟩
  | .exc C x, _, ⟨a, c, d, u, e, m, h, h', n, n', r⟩ => ⟨a, c, d, u, e, m, h, h', ⟨n.1, hid_ok (eh := eh) i h n.2⟩, ⟨n'.1, hid_ok (eh := eh) i h' n'.2⟩, Rp.hid i r⟩
  | .exa _ C x, _, ⟨a, c, d, u, e, m, h, h', n, n', r⟩ => ⟨a, c, d, u, e, m, h, h', ⟨n.1, hid_ok (eh := eh) i h n.2⟩, ⟨n'.1, hid_ok (eh := eh) i h' n'.2⟩, Rp.hid i r⟩
  | .dn xs, _, ⟨a, o, ys, us, e, h, z, r⟩ => ⟨a, o, ys, us, e, h, z, RpN.hid i r⟩
theorem RpL.hid {Hd Hd' : Addr → Prop} (i : ∀ a, Hd' a → Hd a ∨ H a = none) : ∀ {x : List EV} {v : List V}, RpL K mg Hd eh H x v → RpL K mg Hd' eh H x v
  | [], _, h => h
  | _ :: _, _, ⟨v, r, e, h, t⟩ => ⟨v, r, e, Rp.hid i h, RpL.hid i t⟩
theorem RpK.hid {Hd Hd' : Addr → Prop} (i : ∀ a, Hd' a → Hd a ∨ H a = none) : ∀ {x : List (Key × EV)} {v : List (Key × V)}, RpK K mg Hd eh H x v → RpK K mg Hd' eh H x v
  | [], _, h => h
  | (_, _) :: _, _, ⟨v, r, e, h, t⟩ => ⟨v, r, e, Rp.hid i h, RpK.hid i t⟩
theorem RpF.hid {Hd Hd' : Addr → Prop} (i : ∀ a, Hd' a → Hd a ∨ H a = none) : ∀ {x : List (Str × EV)} {v : List (Str × V)}, RpF K mg Hd eh H x v → RpF K mg Hd' eh H x v
  | [], _, h => h
  | (_, _) :: _, _, ⟨v, r, e, h, t⟩ => ⟨v, r, e, Rp.hid i h, RpF.hid i t⟩
theorem RpN.hid {Hd Hd' : Addr → Prop} (i : ∀ a, Hd' a → Hd a ∨ H a = none) : ∀ {x : List (NestedKey × EV)} {v : List V}, RpN K mg Hd eh H x v → RpN K mg Hd' eh H x v
  | [], _, h => h
  | (_, _) :: _, _, ⟨v, r, e, h, t⟩ => ⟨v, r, e, Rp.hid i h, RpN.hid i t⟩
end
theorem RpO.hid {Hd Hd' : Addr → Prop} (i : ∀ a, Hd' a → Hd a ∨ H a = none) {a : Addr} {o : EO} (h : RpO K mg Hd eh H a o) : RpO K mg Hd' eh H a o := by
  cases o with
  | lst xs => obtain ⟨vs, q, r⟩ := h; exact ⟨vs, q, r.hid i⟩
  | dct xs => obtain ⟨vs, q, r⟩ := h; exact ⟨vs, q, r.hid i⟩
  | ins C fs => obtain ⟨c, dx, us, m, q, r⟩ := h; exact ⟨c, dx, us, m, q, r.hid i⟩
  | dN xs => obtain ⟨ys, us, q, z, hz, e, k, v, r⟩ := h; exact ⟨ys, us, q, z, hz, e, k, v, r.hid i⟩
/-- less is hidden -/
theorem Rh.less {Hd Hd' : Addr → Prop} (R : Rh K mg Hd eh H) (i : ∀ a, Hd' a → Hd a) : Rh K mg Hd' eh H := ⟨R.tb, fun a o e => (R.ob a o e).hid fun a z => .inl (i a z), fun a z => R.hd a (i a z)⟩
theorem RpN.ofL : ∀ {xs : List (NestedKey × EV)} {vs : List V}, RpL K mg Hd eh H (xs.map (·.2)) vs → RpN K mg Hd eh H xs vs
  | [], _, h => h
  | (_, _) :: _, _, ⟨v, r, e, h, t⟩ => ⟨v, r, e, h, RpN.ofL t⟩
theorem RpL.length : ∀ {xs : List EV} {vs : List V}, RpL K mg Hd eh H xs vs → xs.length = vs.length
  | [], _, h => by cases h; rfl
  | _ :: _, _, ⟨_, _, e, _, t⟩ => by subst e; simp [RpL.length t]
theorem RpL.get : ∀ {xs : List EV} {vs : List V} {i : Nat} {x : EV}, RpL K mg Hd eh H xs vs → xs[i]? = some x → ∃ v, vs[i]? = some v ∧ Rp K mg Hd eh H x v
  | [], _, _, _, _, e => by simp at e
  | _ :: _, _, 0, _, ⟨v, r, e, h, t⟩, z => by subst e; simp at z; subst z; exact ⟨v, rfl, h⟩
  | _ :: _, _, i + 1, _, ⟨v, r, e, h, t⟩, z => by subst e; simpa using RpL.get t (by simpa using z)
theorem RpL.get' : ∀ {xs : List EV} {vs : List V} {i : Nat} {v : V}, RpL K mg Hd eh H xs vs → vs[i]? = some v → ∃ x, xs[i]? = some x ∧ Rp K mg Hd eh H x v
  | [], _, _, _, h, e => by cases h; simp at e
  | x :: _, _, 0, _, ⟨v, r, e, h, t⟩, z => by subst e; simp at z; subst z; exact ⟨x, rfl, h⟩
  | _ :: _, _, i + 1, _, ⟨v, r, e, h, t⟩, z => by subst e; simpa using RpL.get' t (by simpa using z)
theorem RpL.append : ∀ {xs ys : List EV} {vs us : List V}, RpL K mg Hd eh H xs vs → RpL K mg Hd eh H ys us → RpL K mg Hd eh H (xs ++ ys) (vs ++ us)
  | [], _, _, _, h, t => by cases h; exact t
  | _ :: _, _, _, _, ⟨v, r, e, h, t⟩, z => by subst e; exact ⟨v, _, rfl, h, RpL.append t z⟩
theorem RpL.nil : RpL K mg Hd eh H [] [] := rfl
theorem RpL.cons {x : EV} {v : V} {xs : List EV} {vs : List V} (h : Rp K mg Hd eh H x v) (t : RpL K mg Hd eh H xs vs) : RpL K mg Hd eh H (x :: xs) (v :: vs) := ⟨v, vs, rfl, h, t⟩
theorem RpL.one {x : EV} {v : V} (h : Rp K mg Hd eh H x v) : RpL K mg Hd eh H [x] [v] := .cons h .nil
theorem RpL.take : ∀ {xs : List EV} {vs : List V} (n : Nat), RpL K mg Hd eh H xs vs → RpL K mg Hd eh H (xs.take n) (vs.take n)
  | _, _, 0, _ => by simp [RpL]
  | [], _, _ + 1, h => by cases h; exact rfl
  | _ :: _, _, n + 1, ⟨v, r, e, h, t⟩ => by subst e; exact ⟨v, _, rfl, h, RpL.take n t⟩
theorem RpL.drop : ∀ {xs : List EV} {vs : List V} (n : Nat), RpL K mg Hd eh H xs vs → RpL K mg Hd eh H (xs.drop n) (vs.drop n)
  | _, _, 0, h => h
  | [], _, _ + 1, h => by cases h; exact rfl
  | _ :: _, _, n + 1, ⟨v, r, e, h, t⟩ => by subst e; exact RpL.drop n t
theorem RpL.set {x : EV} {v : V} (q : Rp K mg Hd eh H x v) : ∀ {xs : List EV} {vs : List V} (n : Nat), RpL K mg Hd eh H xs vs → RpL K mg Hd eh H (xs.set n x) (vs.set n v)
  | [], _, _, h => by cases h; exact rfl
  | _ :: _, _, 0, ⟨v, r, e, h, t⟩ => by subst e; exact ⟨_, _, rfl, q, t⟩
  | _ :: _, _, n + 1, ⟨v, r, e, h, t⟩ => by subst e; exact ⟨_, _, rfl, h, RpL.set q n t⟩
theorem RpL.reverse : ∀ {xs : List EV} {vs : List V}, RpL K mg Hd eh H xs vs → RpL K mg Hd eh H xs.reverse vs.reverse
  | [], _, h => by cases h; exact rfl
  | _ :: _, _, ⟨v, r, e, h, t⟩ => by subst e; simp only [List.reverse_cons]; exact RpL.append (RpL.reverse t) (.one h)
theorem RpL.dropLast {xs : List EV} {vs : List V} (h : RpL K mg Hd eh H xs vs) : RpL K mg Hd eh H xs.dropLast vs.dropLast := by
  rw [List.dropLast_eq_take, List.dropLast_eq_take, h.length]; exact h.take _
theorem RpL.eraseIdx : ∀ {xs : List EV} {vs : List V} (n : Nat), RpL K mg Hd eh H xs vs → RpL K mg Hd eh H (xs.eraseIdx n) (vs.eraseIdx n)
  | [], _, _, h => by cases h; exact rfl
  | _ :: _, _, 0, ⟨v, r, e, h, t⟩ => by subst e; exact t
  | _ :: _, _, n + 1, ⟨v, r, e, h, t⟩ => by subst e; exact ⟨_, _, rfl, h, RpL.eraseIdx n t⟩
theorem RpL.ints : ∀ {ns : List Int} {vs : List V}, RpL K mg Hd eh H (ns.map EV.int) vs → vs = ns.map V.int
  | [], _, h => h
  | _ :: _, _, ⟨v, r, e, h, t⟩ => by subst e; cases h; rw [RpL.ints t]; rfl
theorem RpL.of_ints : ∀ (ns : List Int), RpL K mg Hd eh H (ns.map EV.int) (ns.map V.int)
  | [] => rfl
  | n :: ns => .cons rfl (RpL.of_ints ns)
theorem RpL.strs : ∀ {ns : List Str} {vs : List V}, RpL K mg Hd eh H (ns.map EV.str) vs → vs = ns.map V.str
  | [], _, h => h
  | _ :: _, _, ⟨v, r, e, h, t⟩ => by subst e; cases h; rw [RpL.strs t]; rfl
theorem RpL.bools : ∀ {ns : List Bool} {vs : List V}, RpL K mg Hd eh H (ns.map EV.bl) vs → vs = ns.map V.bl
  | [], _, h => h
  | _ :: _, _, ⟨v, r, e, h, t⟩ => by subst e; cases h; rw [RpL.bools t]; rfl
theorem RpK.length : ∀ {xs : List (Key × EV)} {vs : List (Key × V)}, RpK K mg Hd eh H xs vs → xs.length = vs.length
  | [], _, h => by cases h; rfl
  | (_, _) :: _, _, ⟨_, _, e, _, t⟩ => by subst e; simp [RpK.length t]
theorem RpK.keys : ∀ {xs : List (Key × EV)} {vs : List (Key × V)}, RpK K mg Hd eh H xs vs → vs.map (·.1) = xs.map (·.1)
  | [], _, h => by cases h; rfl
  | (_, _) :: _, _, ⟨_, _, e, _, t⟩ => by subst e; simp [RpK.keys t]
theorem RpK.get' : ∀ {xs : List (Key × EV)} {vs : List (Key × V)} {i : Nat} {k : Key} {v : V}, RpK K mg Hd eh H xs vs → vs[i]? = some (k, v) → ∃ x, xs[i]? = some (k, x) ∧ Rp K mg Hd eh H x v
  | [], _, _, _, _, h, e => by cases h; simp at e
  | (_, x) :: _, _, 0, _, _, ⟨v, r, e, h, t⟩, z => by
    subst e; simp at z; obtain ⟨rfl, rfl⟩ := z; exact ⟨x, rfl, h⟩
  | (_, _) :: _, _, i + 1, _, _, ⟨v, r, e, h, t⟩, z => by subst e; simpa using RpK.get' t (by simpa using z)
theorem RpL.isEmpty {xs : List EV} {vs : List V} (h : RpL K mg Hd eh H xs vs) : vs.isEmpty = xs.isEmpty := by
  have := h.length; cases xs <;> cases vs <;> first | rfl | simp at this
theorem RpK.isEmpty {xs : List (Key × EV)} {vs : List (Key × V)} (h : RpK K mg Hd eh H xs vs) : vs.isEmpty = xs.isEmpty := by
  have := h.length; cases xs <;> cases vs <;> first | rfl | simp at this
theorem RpF.keys : ∀ {xs : List (Str × EV)} {vs : List (Str × V)}, RpF K mg Hd eh H xs vs → vs.map (·.1) = xs.map (·.1)
  | [], _, h => by cases h; rfl
  | (_, _) :: _, _, ⟨_, _, e, _, t⟩ => by subst e; simp [RpF.keys t]
theorem RpF.length {xs : List (Str × EV)} {vs : List (Str × V)} (h : RpF K mg Hd eh H xs vs) : xs.length = vs.length := by
  have := congrArg List.length h.keys; simpa using this.symm
theorem RpF.lookup {f : Str} : ∀ {xs : List (Str × EV)} {vs : List (Str × V)} {x : EV}, RpF K mg Hd eh H xs vs → xs.lookup f = some x → ∃ v, vs.lookup f = some v ∧ Rp K mg Hd eh H x v
  | [], _, _, _, e => by simp at e
  | (k, _) :: _, _, x, ⟨v, r, e, h, t⟩, z => by
    subst e
    cases hk : f == k with
    | true => simp only [List.lookup_cons, hk] at z ⊢; cases z; exact ⟨v, rfl, h⟩
    | false => simp only [List.lookup_cons, hk] at z ⊢; exact RpF.lookup t z
theorem RpF.lookup_none {f : Str} : ∀ {xs : List (Str × EV)} {vs : List (Str × V)}, RpF K mg Hd eh H xs vs → xs.lookup f = none → vs.lookup f = none
  | [], _, h, e => by cases h; rfl
  | (k, _) :: _, _, ⟨v, r, e, h, t⟩, z => by
    subst e
    cases hk : f == k with
    | true => simp only [List.lookup_cons, hk] at z; cases z
    | false => simp only [List.lookup_cons, hk] at z ⊢; exact RpF.lookup_none t z
end
end VM

/-! VM2: readings U, UT, UA, US of shallow terms; names, constants, operators, tests, blocks. -/
namespace VM
open PySem PySem.Spec PyProof.Rows L2

/-! ### shallow terms -/
abbrev XC := Str → EV → Eh → Prop
abbrev KE := EV → Eh → Prop
abbrev ME := XC → Es → Eh → KE → Prop
abbrev MT := XC → Es → Eh → (Bool → Eh → Prop) → Prop
abbrev MA := XC → Es → Eh → (List EV → Eh → Prop) → Prop
structure Dn where
  nx : Es → Eh → Prop
  rt : KE
  bk : Es → Eh → Prop := fun _ _ => False
  ct : Es → Eh → Prop := fun _ _ => False
abbrev MS := XC → Dn → Es → Eh → Prop
abbrev EO2 := EV → EV → Eh → KE → Prop
abbrev EO1 := EV → Eh → KE → Prop
abbrev EOL := List EV → Eh → KE → Prop

section
variable (K : PySem.W.Frag) (mg : MW) (E : XK)
/-- what an exception's continuation leads to -/
def XOk (Hd : Addr → Prop) (eh : Eh) (H : Hp) (xc : XC) : Prop := ∀ eh' H' C c d x v, Step eh H eh' H' → Rh K mg Hd eh' H' → mg C = some (.ref c) → H' d = some (.xd [("value", v)]) → Rp K mg Hd eh' H' x v → xc C x eh' → E (.ref c) (some d) H'
def U (m : ME) : TE := fun σ H Q => ∃ Hd es eh xc q, Rl K mg Hd eh H es σ ∧ XOk K mg E Hd eh H xc ∧ m xc es eh q ∧
  ∀ eh' H' x v, Step eh H eh' H' → Rh K mg Hd eh' H' → Rp K mg Hd eh' H' x v → q x eh' → Q v H'
def UT (m : MT) : TT := fun σ H Q => ∃ Hd es eh xc q, Rl K mg Hd eh H es σ ∧ XOk K mg E Hd eh H xc ∧ m xc es eh q ∧
  ∀ eh' H' b, Step eh H eh' H' → Rh K mg Hd eh' H' → q b eh' → Q b H'
def UA (m : MA) : TA := fun σ H Q => ∃ Hd es eh xc q, Rl K mg Hd eh H es σ ∧ XOk K mg E Hd eh H xc ∧ m xc es eh q ∧
  ∀ eh' H' xs vs, Step eh H eh' H' → Rh K mg Hd eh' H' → RpL K mg Hd eh' H' xs vs → q xs eh' → Q vs H'
def US (m : MS) : TS := fun D σ H => ∃ Hd es eh xc d, Rl K mg Hd eh H es σ ∧ XOk K mg E Hd eh H xc ∧ m xc d es eh ∧
  (∀ es' eh' σ' H', Step eh H eh' H' → Rl K mg Hd eh' H' es' σ' → d.nx es' eh' → D.nx σ' H') ∧
  (∀ eh' H' x v, Step eh H eh' H' → Rh K mg Hd eh' H' → Rp K mg Hd eh' H' x v → d.rt x eh' → D.rt v H') ∧
  (∀ es' eh' σ' H', Step eh H eh' H' → Rl K mg Hd eh' H' es' σ' → d.bk es' eh' → D.bk σ' H') ∧
  (∀ es' eh' σ' H', Step eh H eh' H' → Rl K mg Hd eh' H' es' σ' → d.ct es' eh' → D.ct σ' H')
def U1 (o : EO1) : V → Hp → VK → Prop := fun v H Q => ∃ Hd eh x q, Rh K mg Hd eh H ∧ Rp K mg Hd eh H x v ∧ o x eh q ∧
  ∀ eh' H' z w, Step eh H eh' H' → Rh K mg Hd eh' H' → Rp K mg Hd eh' H' z w → q z eh' → Q w H'
def U2 (o : EO2) : R2 := fun v u H Q => ∃ Hd eh x y q, Rh K mg Hd eh H ∧ Rp K mg Hd eh H x v ∧ Rp K mg Hd eh H y u ∧ o x y eh q ∧
  ∀ eh' H' z w, Step eh H eh' H' → Rh K mg Hd eh' H' → Rp K mg Hd eh' H' z w → q z eh' → Q w H'
def UL (o : EOL) : List V → Hp → VK → Prop := fun vs H Q => ∃ Hd eh xs q, Rh K mg Hd eh H ∧ RpL K mg Hd eh H xs vs ∧ o xs eh q ∧
  ∀ eh' H' z w, Step eh H eh' H' → Rh K mg Hd eh' H' → Rp K mg Hd eh' H' z w → q z eh' → Q w H'
def UM (o : EV → EOL) : V → List V → Hp → VK → Prop := fun v vs H Q => ∃ Hd eh x xs q, Rh K mg Hd eh H ∧ Rp K mg Hd eh H x v ∧ RpL K mg Hd eh H xs vs ∧ o x xs eh q ∧
  ∀ eh' H' z w, Step eh H eh' H' → Rh K mg Hd eh' H' → Rp K mg Hd eh' H' z w → q z eh' → Q w H'
end
theorem Rl.step {K mg Hd} {eh eh' : Eh} {H H' : Hp} {es : Es} {σ : L2.St} (R : Rl K mg Hd eh H es σ) (s : Step eh H eh' H') (R' : Rh K mg Hd eh' H') : Rl K mg Hd eh' H' es σ :=
  ⟨R.len, fun i x e => let ⟨v, a, b⟩ := R.loc i x e; ⟨v, a, b.step s⟩, R'⟩
theorem XOk.step {K mg} {E : XK} {Hd : Addr → Prop} {eh eh' : Eh} {H H' : Hp} {xc : XC} (x : XOk K mg E Hd eh H xc) (s : Step eh H eh' H') : XOk K mg E Hd eh' H' xc :=
  fun eh2 H2 C c d x' v s2 => x eh2 H2 C c d x' v (s.trans s2)

/-! ### weakening -/
theorem PE.imp {X : Cx} {e : Expr} {t t' : TE} (h : PE X e t) (i : ∀ σ H Q, t' σ H Q → t σ H Q) : PE X e t' := ⟨fun pins s σ H Q I w => h.run pins s σ H Q I (i σ H Q w)⟩
theorem PT.imp {X : Cx} {e : Expr} {t t' : TT} (h : PT X e t) (i : ∀ σ H Q, t' σ H Q → t σ H Q) : PT X e t' := ⟨fun pins s σ H Q I w => h.run pins s σ H Q I (i σ H Q w)⟩
theorem PW.imp {X : Cx} {e : Expr} {t t' : TT} (h : PW X e t) (i : ∀ σ H Q, t' σ H Q → t σ H Q) : PW X e t' := ⟨fun wh pins s σ H Q I w => h.run wh pins s σ H Q I (i σ H Q w)⟩
theorem PA.imp {X : Cx} {e : List Expr} {t t' : TA} (h : PA X e t) (i : ∀ σ H Q, t' σ H Q → t σ H Q) : PA X e t' := ⟨fun pos pins s σ H Q I w => h.run pos pins s σ H Q I (i σ H Q w)⟩
theorem PS.imp {X : Cx} {e : Stmt} {t t' : TS} (h : PS X e t) (i : ∀ D σ H, t' D σ H → t D σ H) : PS X e t' := ⟨fun pins s σ H D I w => h.run pins s σ H D I (i D σ H w)⟩
theorem PSs.imp {X : Cx} {e : List Stmt} {t t' : TS} (h : PSs X e t) (i : ∀ D σ H, t' D σ H → t D σ H) : PSs X e t' := ⟨fun pins s σ H D I w => h.run pins s σ H D I (i D σ H w)⟩
theorem OpR.imp {X : Cx} {f} {t t' : R2} (h : OpR X f t) (i : ∀ x y H Q, t' x y H Q → t x y H Q) : OpR X f t' := fun pins s σ H x y v u Q I r1 r2 w => h pins s σ H x y v u Q I r1 r2 (i x y H Q w)
theorem CallR.imp {X : Cx} {f} {t t' : List V → Hp → VK → Prop} (h : CallR X f t) (i : ∀ x H Q, t' x H Q → t x H Q) : CallR X f t' := fun pins s σ H x v Q I r1 w => h pins s σ H x v Q I r1 (i x H Q w)

/-! ### terms -/
def mC (x : EV) : ME := fun _ _ eh q => q x eh
def mVar (i : Nat) : ME := fun _ es eh q => match es[i]? with | some (some x) => q x eh | _ => False
def mOp (o : EO2) (a b : ME) : ME := fun xc es eh q => a xc es eh fun x eh1 => b xc es eh1 fun y eh2 => o x y eh2 q
def mUn (o : EO1) (a : ME) : ME := fun xc es eh q => a xc es eh fun x eh1 => o x eh1 q
def mChain (o o' : EO2) (a b c : ME) : ME := fun xc es eh q => a xc es eh fun x eh1 => b xc es eh1 fun y eh2 => o x y eh2 fun z eh3 => match z with
  | .bl true => c xc es eh3 fun w eh4 => o' y w eh4 q
  | .bl false => q (.bl false) eh3
  | _ => False
def mIf (t : MT) (a b : ME) : ME := fun xc es eh q => t xc es eh fun c eh1 => match c with | true => a xc es eh1 q | false => b xc es eh1 q
def aNil : MA := fun _ _ eh q => q [] eh
def aCons (a : ME) (r : MA) : MA := fun xc es eh q => a xc es eh fun x eh1 => r xc es eh1 fun xs eh2 => q (x :: xs) eh2
def mTup (t : MA) : ME := fun xc es eh q => t xc es eh fun xs eh1 => xs.length ≤ sizeLine ∧ q (.tup xs) eh1
def mLst (t : MA) : ME := fun xc es eh q => t xc es eh fun xs eh1 => xs.length ≤ sizeLine ∧ q (.lst xs) eh1
def mLstR (t : MA) : ME := fun xc es eh q => t xc es eh fun xs eh1 => xs.length ≤ sizeLine ∧ ∀ p, eh1 p = none → q (.ref p) (eupd eh1 p (some (.lst xs)))
/-- a value as a test: a bool -/
def tVal (m : ME) : MT := fun xc es eh q => m xc es eh fun x eh1 => match x with | .bl b => q b eh1 | _ => False
def truE (eh : Eh) : EV → Option Bool
  | .non => some false
  | .bl b => some b
  | .int i => some (i != 0)
  | .str x => if x.length ≤ sizeLine then some ((x.length : Int) != 0) else none
  | .lst xs => some (!xs.isEmpty)
  | .tup xs => some (!xs.isEmpty)
  | .ref a => match eh a with | some (.lst xs) => some (!xs.isEmpty) | some (.dct xs) => some (!xs.isEmpty) | _ => none
  | _ => none
def tTru (m : ME) : MT := fun xc es eh q => m xc es eh fun x eh1 => match truE eh1 x with | some b => q b eh1 | none => False
def tAnd (t u : MT) : MT := fun xc es eh q => t xc es eh fun c eh1 => match c with | true => u xc es eh1 q | false => q false eh1
def tOr (t u : MT) : MT := fun xc es eh q => t xc es eh fun c eh1 => match c with | true => q true eh1 | false => u xc es eh1 q
def tNot (t : MT) : MT := fun xc es eh q => t xc es eh fun c eh1 => q (!c) eh1
def mAnd (a b : ME) : ME := fun xc es eh q => a xc es eh fun x eh1 => match x with | .bl true => b xc es eh1 q | .bl false => q (.bl false) eh1 | _ => False
def mOr (a b : ME) : ME := fun xc es eh q => a xc es eh fun x eh1 => match x with | .bl true => q (.bl true) eh1 | .bl false => b xc es eh1 q | _ => False
def mNot (a : ME) : ME := fun xc es eh q => a xc es eh fun x eh1 => match x with | .bl c => q (.bl (!c)) eh1 | _ => False

section
variable {X : Cx} {E : XK} {a b c e : Expr} {ma mb mc : ME} {mt mu : MT} {pos : Pos}

/-! ### names and constants -/
theorem fin {σ : L2.St} {H : Hp} {Q : VK} {es : Es} {eh : Eh} {q : KE} {x : EV} {v : V} (R : Rh X.K X.mw Hd eh H) (r : Rp X.K X.mw Hd eh H x v) (h : q x eh)
    (k : ∀ eh' H' x v, Step eh H eh' H' → Rh X.K X.mw Hd eh' H' → Rp X.K X.mw Hd eh' H' x v → q x eh' → Q v H') : Q v H := k eh H x v .refl R r h
theorem re_c {x : EV} {v : V} (h : PE X e (tC v)) (r : ∀ Hd eh H, Rp X.K X.mw Hd eh H x v) : PE X e (U X.K X.mw E (mC x)) :=
  PE.imp h fun σ H Q ⟨Hd, es, eh, xc, q, R, xo, m, k⟩ => k eh H x v .refl R.obj (r _ _ _) m
theorem re_int {i : Int} {j} : PE X (.Constant (.int i) j pos) (U X.K X.mw E (mC (.int i))) := re_c pe_int fun _ _ _ => rfl
theorem re_bl {b : Bool} {j} : PE X (.Constant (.bool b) j pos) (U X.K X.mw E (mC (.bl b))) := re_c pe_bl fun _ _ _ => rfl
theorem re_non {j} : PE X (.Constant .none j pos) (U X.K X.mw E (mC .non)) := re_c pe_non fun _ _ _ => rfl
theorem re_str {x : Str} {j} : PE X (.Constant (.str x) j pos) (U X.K X.mw E (mC (.str x))) := re_c pe_str fun _ _ _ => rfl
theorem re_var (i : Nat) {x : Str} (hN : X.N[i]? = some x := by rfl) (hv : Vis X.env.scope x := by first | exact Or.inl rfl | exact Or.inr (Or.inl rfl) | exact Or.inr (Or.inr rfl)) (hd : (x == ("__debug__" : Str)) = false := by decide)
    (hcd : (x == ("__classdict__" : Str)) = false := by decide) : PE X (.Name x pos) (U X.K X.mw E (mVar i)) :=
  PE.imp (pe_var hN hv hd hcd) fun σ H Q ⟨Hd, es, eh, xc, q, R, xo, m, k⟩ => by
    unfold mVar at m
    cases h : es[i]? with
    | none => rw [h] at m; exact m.elim
    | some o =>
      cases o with
      | none => rw [h] at m; exact m.elim
      | some x =>
        rw [h] at m
        obtain ⟨v, hv, r⟩ := R.loc i x h
        exact ⟨v, hv, k eh H x v .refl R.obj r m⟩
/-- a constant of the module -/
theorem re_glo {x : Str} {y : EV} {v : V} {u : Value} (hg : Gl X x) (hm : X.mg x = some u) (r : RelV v u) (r' : ∀ Hd eh H, Rp X.K X.mw Hd eh H y v) (hd : (x == ("__debug__" : Str)) = false := by decide) : PE X (.Name x pos) (U X.K X.mw E (mC y)) :=
  re_c (pe_glob hg hm r hd) r'

/-! ### operators -/
theorem op_lift {f : Value → Value → Sem Value} {o : EO2} (ho : OpR X f (U2 X.K X.mw o)) (ha : PE X a (U X.K X.mw E ma)) (hb : PE X b (U X.K X.mw E mb)) :
    ∀ σ H Q, U X.K X.mw E (mOp o ma mb) σ H Q → tOp (U2 X.K X.mw o) (U X.K X.mw E ma) (U X.K X.mw E mb) σ H Q := fun σ H Q ⟨Hd, es, eh, xc, q, R, xo, m, k⟩ =>
  ⟨Hd, es, eh, xc, _, R, xo, m, fun eh1 H1 x v s1 R1 r1 m1 => ⟨Hd, es, eh1, xc, _, R.step s1 R1, xo.step s1, m1, fun eh2 H2 y u s2 R2 r2 m2 =>
    ⟨Hd, eh2, x, y, q, R2, r1.step s2, r2, m2, fun eh3 H3 z w s3 R3 r3 h3 => k eh3 H3 z w (s1.trans (s2.trans s3)) R3 r3 h3⟩⟩⟩
theorem re_op {op : Operator} {o : EO2} (ho : OpR X (binaryOp op) (U2 X.K X.mw o)) (ha : PE X a (U X.K X.mw E ma)) (hb : PE X b (U X.K X.mw E mb)) : PE X (.BinOp a op b pos) (U X.K X.mw E (mOp o ma mb)) :=
  PE.imp (pe_op ho ha hb) (op_lift ho ha hb)
theorem re_cmp {op : CmpOp} {o : EO2} (ho : OpR X (compareOp op) (U2 X.K X.mw o)) (ha : PE X a (U X.K X.mw E ma)) (hb : PE X b (U X.K X.mw E mb)) (hm : behindInMarks op b = false) : PE X (.Compare a [op] [b] pos) (U X.K X.mw E (mOp o ma mb)) :=
  PE.imp (pe_cmpR ho ha hb hm) (op_lift ho ha hb)
theorem re_sub {o : EO2} (ho : IxR X (U2 X.K X.mw o)) (ha : PE X a (U X.K X.mw E ma)) (hb : PE X b (U X.K X.mw E mb)) (hs : PlainIx b) : PE X (.Subscript a b pos) (U X.K X.mw E (mOp o ma mb)) :=
  PE.imp (pe_ix ho ha hb hs) fun σ H Q ⟨Hd, es, eh, xc, q, R, xo, m, k⟩ =>
  ⟨Hd, es, eh, xc, _, R, xo, m, fun eh1 H1 x v s1 R1 r1 m1 => ⟨Hd, es, eh1, xc, _, R.step s1 R1, xo.step s1, m1, fun eh2 H2 y u s2 R2 r2 m2 =>
    ⟨Hd, eh2, x, y, q, R2, r1.step s2, r2, m2, fun eh3 H3 z w s3 R3 r3 h3 => k eh3 H3 z w (s1.trans (s2.trans s3)) R3 r3 h3⟩⟩⟩
theorem re_un {op : UnaryOp} {o : EO1} (ho : UnR X (unaryOp op) (U1 X.K X.mw o)) (ha : PE X a (U X.K X.mw E ma)) : PE X (.UnaryOp op a pos) (U X.K X.mw E (mUn o ma)) :=
  PE.imp (pe_un ho ha) fun σ H Q ⟨Hd, es, eh, xc, q, R, xo, m, k⟩ => ⟨Hd, es, eh, xc, _, R, xo, m, fun eh1 H1 x v s1 R1 r1 m1 =>
    ⟨Hd, eh1, x, q, R1, r1, m1, fun eh3 H3 z w s3 R3 r3 h3 => k eh3 H3 z w (s1.trans s3) R3 r3 h3⟩⟩
theorem chain_lift {o o' : EO2} : ∀ σ H Q, U X.K X.mw E (mChain o o' ma mb mc) σ H Q → tChain (U2 X.K X.mw o) (U2 X.K X.mw o') (U X.K X.mw E ma) (U X.K X.mw E mb) (U X.K X.mw E mc) σ H Q := fun σ H Q ⟨Hd, es, eh, xc, q, R, xo, m, k⟩ =>
  ⟨Hd, es, eh, xc, _, R, xo, m, fun eh1 H1 x v s1 R1 r1 m1 => ⟨Hd, es, eh1, xc, _, R.step s1 R1, xo.step s1, m1, fun eh2 H2 y u s2 R2 r2 m2 =>
    ⟨Hd, eh2, x, y, _, R2, r1.step s2, r2, m2, fun eh3 H3 z w s3 R3 r3 h3 => by
      cases z with
      | bl b =>
        cases r3
        refine ⟨b, rfl, ?_⟩
        cases b with
        | true => exact iteT ⟨Hd, es, eh3, xc, _, ((R.step s1 R1).step s2 R2).step s3 R3, ((xo.step s1).step s2).step s3, h3, fun eh4 H4 t w' s4 R4 r4 h4 =>
            ⟨Hd, eh4, y, t, q, R4, (r2.step s3).step s4, r4, h4, fun eh5 H5 z5 w5 s5 R5 r5 h5 => k eh5 H5 z5 w5 (s1.trans (s2.trans (s3.trans (s4.trans s5)))) R5 r5 h5⟩⟩
        | false => exact iteF (k eh3 H3 (.bl false) (.bl false) (s1.trans (s2.trans s3)) R3 rfl h3)
      | _ => exact h3.elim⟩⟩⟩
theorem re_chain {op op' : CmpOp} {o o' : EO2} (ho : OpR X (compareOp op) (U2 X.K X.mw o)) (ho' : OpR X (compareOp op') (U2 X.K X.mw o')) (ha : PE X a (U X.K X.mw E ma)) (hb : PE X b (U X.K X.mw E mb)) (hc : PE X c (U X.K X.mw E mc))
    (hm : lastMarks [op, op'] [b, c] = false := by with_unfolding_all rfl) : PE X (.Compare a [op, op'] [b, c] pos) (U X.K X.mw E (mChain o o' ma mb mc)) :=
  PE.imp (pe_chain ho ho' ha hb hc hm) chain_lift

/-! ### tests -/
theorem val_lift : ∀ σ H Q, UT X.K X.mw E (tVal ma) σ H Q → tTest (U X.K X.mw E ma) σ H Q := fun σ H Q ⟨Hd, es, eh, xc, q, R, xo, m, k⟩ =>
  ⟨Hd, es, eh, xc, _, R, xo, m, fun eh1 H1 x v s1 R1 r1 m1 => by
    cases x with
    | bl b => cases r1; exact ⟨b, rfl, k eh1 H1 b s1 R1 m1⟩
    | _ => exact m1.elim⟩
theorem rt_cmp {op : CmpOp} {o : EO2} (ho : OpR X (compareOp op) (U2 X.K X.mw o)) (ha : PE X a (U X.K X.mw E ma)) (hb : PE X b (U X.K X.mw E mb)) (hm : behindInMarks op b = false) : PT X (.Compare a [op] [b] pos) (UT X.K X.mw E (tVal (mOp o ma mb))) :=
  PT.imp (pt_cmpR ho ha hb hm) fun σ H Q h => by
    obtain ⟨Hd, es, eh, xc, q, z⟩ := val_lift σ H Q h
    exact op_lift ho ha hb σ H _ ⟨Hd, es, eh, xc, q, z⟩
theorem rt_chain {op op' : CmpOp} {o o' : EO2} (ho : OpR X (compareOp op) (U2 X.K X.mw o)) (ho' : OpR X (compareOp op') (U2 X.K X.mw o')) (ha : PE X a (U X.K X.mw E ma)) (hb : PE X b (U X.K X.mw E mb)) (hc : PE X c (U X.K X.mw E mc))
    (hm : lastMarks [op, op'] [b, c] = false := by with_unfolding_all rfl) : PT X (.Compare a [op, op'] [b, c] pos) (UT X.K X.mw E (tVal (mChain o o' ma mb mc))) :=
  PT.imp (pt_chain ho ho' ha hb hc hm) fun σ H Q h => chain_lift σ H _ (val_lift σ H Q h)
theorem tru_of {eh : Eh} {H : Hp} {x : EV} {v : V} {k : Bool} (R : Rh X.K X.mw Hd eh H) (r : Rp X.K X.mw Hd eh H x v) (e : truE eh x = some k) : TruV X.K v H k := by
  cases x with
  | non => cases r; cases e; exact rfl
  | bl b => cases r; cases e; exact rfl
  | int i => cases r; cases e; exact rfl
  | str x => cases r; simp only [truE] at e; split at e
             · rename_i z; cases e; exact ⟨z, rfl⟩
             · cases e
  | tup xs =>
    obtain ⟨p, vs, rfl, h, t⟩ := r
    cases e
    exact .inr (.inl ⟨vs, h, by rw [t.isEmpty]⟩)
  | lst xs =>
    obtain ⟨p, vs, rfl, h, _, t⟩ := r
    cases e
    exact .inl ⟨vs, .inl (.inl h), by rw [t.isEmpty]⟩
  | ref p =>
    cases r
    simp only [truE] at e
    cases h : eh p with
    | none => rw [h] at e; cases e
    | some o =>
      have z := R.ob p o h
      rw [h] at e
      cases o with
      | lst xs =>
        obtain ⟨vs, h, t⟩ := z
        cases e
        exact .inl ⟨vs, .inl (.inl h), by rw [t.isEmpty]⟩
      | dct xs =>
        obtain ⟨vs, h, t⟩ := z
        cases e
        exact .inr (.inr ⟨vs, h, by rw [t.isEmpty]⟩)
      | ins C fs => cases e
      | dN xs => cases e
  | _ => cases e
theorem rt_tru (ha : PE X a (U X.K X.mw E ma)) (he : ∀ whole, isTrue a X.env whole = (do let v ← whole; standAt a.pos; holding [v] (truthy v)) := by intro _; rfl) : PT X a (UT X.K X.mw E (tTru ma)) :=
  PT.imp (pt_truth ha he) fun σ H Q ⟨Hd, es, eh, xc, q, R, xo, m, k⟩ => ⟨Hd, es, eh, xc, _, R, xo, m, fun eh1 H1 x v s1 R1 r1 m1 => by
    cases h : truE eh1 x with
    | none => simp only [h] at m1
    | some b => simp only [h] at m1; exact ⟨b, tru_of R1 r1 h, k eh1 H1 b s1 R1 m1⟩⟩
theorem rw_and1 (h : PT X a (UT X.K X.mw E mt)) : PW X (.BoolOp .And [a] pos) (UT X.K X.mw E mt) := pw_and1 h
theorem rw_or1 (h : PT X a (UT X.K X.mw E mt)) : PW X (.BoolOp .Or [a] pos) (UT X.K X.mw E mt) := pw_or1 h
theorem rw_and {rest : List Expr} (h : PT X a (UT X.K X.mw E mt)) (h' : PW X (.BoolOp .And (b :: rest) pos) (UT X.K X.mw E mu)) : PW X (.BoolOp .And (a :: b :: rest) pos) (UT X.K X.mw E (tAnd mt mu)) :=
  PW.imp (pw_and h h') fun σ H Q ⟨Hd, es, eh, xc, q, R, xo, m, k⟩ => ⟨Hd, es, eh, xc, _, R, xo, m, fun eh1 H1 c s1 R1 m1 => by
    cases c with
    | true => exact iteT ⟨Hd, es, eh1, xc, q, R.step s1 R1, xo.step s1, m1, fun eh2 H2 b s2 R2 m2 => k eh2 H2 b (s1.trans s2) R2 m2⟩
    | false => exact iteF (k eh1 H1 false s1 R1 m1)⟩
theorem rw_or {rest : List Expr} (h : PT X a (UT X.K X.mw E mt)) (h' : PW X (.BoolOp .Or (b :: rest) pos) (UT X.K X.mw E mu)) : PW X (.BoolOp .Or (a :: b :: rest) pos) (UT X.K X.mw E (tOr mt mu)) :=
  PW.imp (pw_or h h') fun σ H Q ⟨Hd, es, eh, xc, q, R, xo, m, k⟩ => ⟨Hd, es, eh, xc, _, R, xo, m, fun eh1 H1 c s1 R1 m1 => by
    cases c with
    | false => exact iteF ⟨Hd, es, eh1, xc, q, R.step s1 R1, xo.step s1, m1, fun eh2 H2 b s2 R2 m2 => k eh2 H2 b (s1.trans s2) R2 m2⟩
    | true => exact iteT (k eh1 H1 true s1 R1 m1)⟩
theorem rt_not (h : PT X a (UT X.K X.mw E mt)) : PT X (.UnaryOp .Not a pos) (UT X.K X.mw E (tNot mt)) :=
  PT.imp (pt_not h) fun σ H Q ⟨Hd, es, eh, xc, q, R, xo, m, k⟩ => ⟨Hd, es, eh, xc, _, R, xo, m, fun eh1 H1 c s1 R1 m1 => k eh1 H1 (!c) s1 R1 m1⟩
/-- and, or, not as values of bools -/
theorem re_one {op} (h : PE X a (U X.K X.mw E ma)) : PE X (.BoolOp op [a] pos) (U X.K X.mw E ma) := pe_one h
theorem re_and {rest : List Expr} (ha : PE X a (U X.K X.mw E ma)) (hb : PE X (.BoolOp .And (b :: rest) pos) (U X.K X.mw E mb)) : PE X (.BoolOp .And (a :: b :: rest) pos) (U X.K X.mw E (mAnd ma mb)) :=
  PE.imp (pe_and ha hb) fun σ H Q ⟨Hd, es, eh, xc, q, R, xo, m, k⟩ => ⟨Hd, es, eh, xc, _, R, xo, m, fun eh1 H1 x v s1 R1 r1 m1 => by
    cases x with
    | bl c =>
      cases r1
      refine ⟨c, rfl, ?_⟩
      cases c with
      | true => exact iteT ⟨Hd, es, eh1, xc, q, R.step s1 R1, xo.step s1, m1, fun eh2 H2 x v s2 => k eh2 H2 x v (s1.trans s2)⟩
      | false => exact iteF (k eh1 H1 (.bl false) (.bl false) s1 R1 rfl m1)
    | _ => exact m1.elim⟩
theorem re_or {rest : List Expr} (ha : PE X a (U X.K X.mw E ma)) (hb : PE X (.BoolOp .Or (b :: rest) pos) (U X.K X.mw E mb)) : PE X (.BoolOp .Or (a :: b :: rest) pos) (U X.K X.mw E (mOr ma mb)) :=
  PE.imp (pe_or ha hb) fun σ H Q ⟨Hd, es, eh, xc, q, R, xo, m, k⟩ => ⟨Hd, es, eh, xc, _, R, xo, m, fun eh1 H1 x v s1 R1 r1 m1 => by
    cases x with
    | bl c =>
      cases r1
      refine ⟨c, rfl, ?_⟩
      cases c with
      | false => exact iteF ⟨Hd, es, eh1, xc, q, R.step s1 R1, xo.step s1, m1, fun eh2 H2 x v s2 => k eh2 H2 x v (s1.trans s2)⟩
      | true => exact iteT (k eh1 H1 (.bl true) (.bl true) s1 R1 rfl m1)
    | _ => exact m1.elim⟩
theorem re_not (ha : PE X a (U X.K X.mw E ma)) : PE X (.UnaryOp .Not a pos) (U X.K X.mw E (mNot ma)) :=
  PE.imp (pe_not ha) fun σ H Q ⟨Hd, es, eh, xc, q, R, xo, m, k⟩ => ⟨Hd, es, eh, xc, _, R, xo, m, fun eh1 H1 x v s1 R1 r1 m1 => by
    cases x with
    | bl c => cases r1; exact ⟨c, rfl, k eh1 H1 (.bl (!c)) (.bl (!c)) s1 R1 rfl m1⟩
    | _ => exact m1.elim⟩

/-! ### argument lists, displays -/
theorem ra_nil : PA X [] (UA X.K X.mw E aNil) := PA.imp pa_nil fun σ H Q ⟨Hd, es, eh, xc, q, R, xo, m, k⟩ => k eh H [] [] .refl R.obj rfl m
theorem ra_cons {es : List Expr} {mr : MA} (ha : PE X e (U X.K X.mw E ma)) (hr : PA X es (UA X.K X.mw E mr)) (hs : starEach (e :: es) X.env = (false, eval e X.env) :: starEach es X.env := by rfl) : PA X (e :: es) (UA X.K X.mw E (aCons ma mr)) :=
  PA.imp (pa_cons ha hr hs) fun σ H Q ⟨Hd, es, eh, xc, q, R, xo, m, k⟩ => ⟨Hd, es, eh, xc, _, R, xo, m, fun eh1 H1 x v s1 R1 r1 m1 =>
    ⟨Hd, es, eh1, xc, _, R.step s1 R1, xo.step s1, m1, fun eh2 H2 xs vs s2 R2 r2 m2 => k eh2 H2 _ _ (s1.trans s2) R2 (.cons (r1.step s2) r2) m2⟩⟩
theorem Rh.fresh {K mg Hd} {eh : Eh} {H : Hp} (R : Rh K mg Hd eh H) {p : Addr} (h : H p = none) : eh p = none := by
  cases e : eh p with
  | none => rfl
  | some o =>
    have z := R.ob p o e
    cases o with
    | lst xs => obtain ⟨_, q, _⟩ := z; rw [h] at q; cases q
    | dct xs => obtain ⟨_, q, _⟩ := z; rw [h] at q; cases q
    | ins C fs => obtain ⟨_, _, _, _, q, _⟩ := z; rw [h] at q; cases q
    | dN xs => obtain ⟨_, _, q, _⟩ := z; rw [h] at q; cases q
theorem Step.new {eh : Eh} {H : Hp} {p : Addr} {o : HO} {eo : Option EO} (h : H p = none) : Step eh H (eupd eh p eo) (upd H p o) :=
  ⟨fun a u hu n _ => ⟨by rw [upd_ne (ne_of_none hu h)]; exact hu, by rw [eupd_ne (ne_of_none hu h)]; exact n⟩, fun a u hu => by rw [upd_ne (ne_of_none hu h)]; exact hu, fun a u w hu => by rw [upd_ne (ne_of_none hu h)]; exact hu⟩
theorem Step.newF {eh : Eh} {H : Hp} {p : Addr} {o : HO} (h : H p = none) : Step eh H eh (upd H p o) :=
  ⟨fun a u hu n _ => ⟨by rw [upd_ne (ne_of_none hu h)]; exact hu, n⟩, fun a u hu => by rw [upd_ne (ne_of_none hu h)]; exact hu, fun a u w hu => by rw [upd_ne (ne_of_none hu h)]; exact hu⟩
theorem RpO.step' {K mg Hd} {eh eh' : Eh} {H H' : Hp} {a : Addr} {o : EO} (s : Step eh H eh' H') (e : H' a = H a) (h : RpO K mg Hd eh H a o) : RpO K mg Hd eh' H' a o := by
  cases o with
  | lst xs => obtain ⟨vs, q, r⟩ := h; exact ⟨vs, e.trans q, r.step s⟩
  | dct xs => obtain ⟨vs, q, r⟩ := h; exact ⟨vs, e.trans q, r.step s⟩
  | ins C fs => obtain ⟨c, dx, us, m, q, r⟩ := h; exact ⟨c, dx, us, m, e.trans q, r.step s⟩
  | dN xs => obtain ⟨ys, us, q, z, hz, ek, k, v, r⟩ := h; exact ⟨ys, us, e.trans q, z, hz, ek, fun x hx => ⟨(k x hx).1.ext fun _ _ w => SqT.step s w, (k x hx).2⟩, v, r.step s⟩
theorem RpO.some {K mg Hd} {eh : Eh} {H : Hp} {a : Addr} {o : EO} (h : RpO K mg Hd eh H a o) : ∃ u, H a = some u ∧ Mut (some u) ∧ (∀ xs, u ≠ .tup xs) ∧ (∀ x y, u ≠ .frz x y) ∧ (∀ ps, u ≠ .tbl ps) ∧ ∀ c q, u ≠ LamX.CodeO c q := by
  cases o with
  | lst xs => obtain ⟨vs, q, r⟩ := h; exact ⟨_, q, trivial, (fun _ z => nomatch z), (fun _ _ z => nomatch z), (fun _ z => nomatch z), fun _ _ z => nomatch z⟩
  | dct xs => obtain ⟨vs, q, r⟩ := h; exact ⟨_, q, trivial, (fun _ z => nomatch z), (fun _ _ z => nomatch z), (fun _ z => nomatch z), fun _ _ z => nomatch z⟩
  | dN xs => obtain ⟨vs, us, q, r⟩ := h; exact ⟨_, q, trivial, (fun _ z => nomatch z), (fun _ _ z => nomatch z), (fun _ z => nomatch z), fun _ _ => dictN_ne⟩
  | ins C fs => obtain ⟨c, dx, us, m, q, r⟩ := h; exact ⟨_, q, trivial, (fun _ z => nomatch z), (fun _ _ z => nomatch z), (fun _ z => nomatch z), fun _ _ z => nomatch z⟩
theorem tabs_new {T : List (Addr × Str)} {H : Hp} {p : Addr} {o : HO} (t : LamX.Tabs T H) (h : H p = none) : LamX.Tabs T (upd H p o) := t.ext fun b u e => by rw [upd_ne (ne_of_none e h)]; exact e
theorem tabs_write {T : List (Addr × Str)} {H : Hp} {p : Addr} {o u : HO} (t : LamX.Tabs T H) (h : H p = some u) (h1 : ∀ ps, u ≠ .tbl ps) (h2 : ∀ c q, u ≠ LamX.CodeO c q) : LamX.Tabs T (upd H p o) := fun q hq => by
  obtain ⟨ps, a, b, c⟩ := t q hq
  refine ⟨ps, by rw [upd_ne fun z => by rw [z, h] at a; exact h1 _ (Option.some.inj a)]; exact a, b, fun pos cv e => ?_⟩
  obtain ⟨c', e1, e2⟩ := c pos cv e
  exact ⟨c', e1, by rw [upd_ne fun z => by rw [z, h] at e2; exact h2 _ _ (Option.some.inj e2)]; exact e2⟩
theorem Rh.notHid {K mg Hd} {eh : Eh} {H : Hp} (R : Rh K mg Hd eh H) {p : Addr} (h : H p = none) : ¬ Hd p := fun z => by
  obtain ⟨⟨o, e⟩, _⟩ := R.hd p z; rw [h] at e; cases e
theorem Rh.newF {K mg Hd} {eh : Eh} {H : Hp} {p : Addr} {o : HO} (R : Rh K mg Hd eh H) (h : H p = none) : Rh K mg Hd eh (upd H p o) := ⟨tabs_new R.tb h, fun a u e => by
  have z := R.ob a u e
  obtain ⟨w, hw, _⟩ := z.some
  exact z.step' (.newF h) (upd_ne (ne_of_none hw h)), fun a z => by
  obtain ⟨⟨w, hw⟩, n⟩ := R.hd a z
  exact ⟨⟨w, by rw [upd_ne (ne_of_none hw h)]; exact hw⟩, n⟩⟩
theorem Rh.new {K mg Hd} {eh : Eh} {H : Hp} {p : Addr} {o : HO} {eo : EO} (R : Rh K mg Hd eh H) (h : H p = none) (n : RpO K mg Hd (eupd eh p (some eo)) (upd H p o) p eo) : Rh K mg Hd (eupd eh p (some eo)) (upd H p o) := ⟨tabs_new R.tb h, fun a u e => by
  by_cases ha : a = p
  · subst ha; rw [eupd_same] at e; cases e; exact n
  · rw [eupd_ne ha] at e
    have z := R.ob a u e
    obtain ⟨w, hw, _⟩ := z.some
    exact z.step' (.new h) (upd_ne ha), fun a z => by
  obtain ⟨⟨w, hw⟩, n⟩ := R.hd a z
  exact ⟨⟨w, by rw [upd_ne (ne_of_none hw h)]; exact hw⟩, by rw [eupd_ne (ne_of_none hw h)]; exact n⟩⟩
theorem Step.write {K mg Hd} {eh : Eh} {H : Hp} {p : Addr} {o : HO} {u : EO} {eo : Option EO} (R : Rh K mg Hd eh H) (h : eh p = some u) : Step eh H (eupd eh p eo) (upd H p o) := by
  obtain ⟨w, hw, mu, nt, nf, _⟩ := (R.ob p u h).some
  have na : ∀ a, eh a = none → a ≠ p := fun a n z => by rw [z, h] at n; cases n
  refine ⟨fun a u hu n _ => ⟨by rw [upd_ne (na a n)]; exact hu, by rw [eupd_ne (na a n)]; exact n⟩, fun a xs hu => ?_, fun a x y hu => ?_⟩
  · rw [upd_ne fun z => ?_]; exact hu
    subst z; rw [hw] at hu; exact nt _ (Option.some.inj hu)
  · rw [upd_ne fun z => ?_]; exact hu
    subst z; rw [hw] at hu; exact nf _ _ (Option.some.inj hu)
theorem Rh.write {K mg Hd} {eh : Eh} {H : Hp} {p : Addr} {o : HO} {u eo : EO} (R : Rh K mg Hd eh H) (h : eh p = some u) (n : RpO K mg Hd (eupd eh p (some eo)) (upd H p o) p eo) : Rh K mg Hd (eupd eh p (some eo)) (upd H p o) := ⟨(by obtain ⟨w, hw, _, _, _, h1, h2⟩ := (R.ob p u h).some; exact tabs_write R.tb hw h1 h2), fun a w e => by
  by_cases ha : a = p
  · subst ha; rw [eupd_same] at e; cases e; exact n
  · rw [eupd_ne ha] at e
    exact (R.ob a w e).step' (.write R h) (upd_ne ha), fun a z => by
  obtain ⟨⟨w, hw⟩, n⟩ := R.hd a z
  have na : a ≠ p := fun e => by rw [e, h] at n; cases n
  exact ⟨⟨w, by rw [upd_ne na]; exact hw⟩, by rw [eupd_ne na]; exact n⟩⟩
theorem re_tup {es : List Expr} {mr : MA} {x1} (h : PA X es (UA X.K X.mw E mr)) : PE X (.Tuple es x1 pos) (U X.K X.mw E (mTup mr)) :=
  PE.imp (pe_tup h) fun σ H Q ⟨Hd, es, eh, xc, q, R, xo, m, k⟩ => ⟨Hd, es, eh, xc, _, R, xo, m, fun eh1 H1 xs vs s1 R1 r1 m1 =>
    ⟨by rw [← r1.length]; exact m1.1, fun p hp => k eh1 _ (.tup xs) (.ref p) (s1.trans (.newF hp)) (R1.newF hp) ⟨p, vs, rfl, .inl (.inl upd_same), r1.step (.newF hp)⟩ m1.2⟩⟩
theorem re_lst {es : List Expr} {mr : MA} (h : PA X es (UA X.K X.mw E mr)) : PE X (.List es pos) (U X.K X.mw E (mLst mr)) :=
  PE.imp (pe_lst h) fun σ H Q ⟨Hd, es, eh, xc, q, R, xo, m, k⟩ => ⟨Hd, es, eh, xc, _, R, xo, m, fun eh1 H1 xs vs s1 R1 r1 m1 =>
    ⟨by rw [← r1.length]; exact m1.1, fun p hp => k eh1 _ (.lst xs) (.ref p) (s1.trans (.newF hp)) (R1.newF hp) ⟨p, vs, rfl, upd_same, ⟨R1.fresh hp, R1.notHid hp⟩, r1.step (.newF hp)⟩ m1.2⟩⟩
theorem re_lstR {es : List Expr} {mr : MA} (h : PA X es (UA X.K X.mw E mr)) : PE X (.List es pos) (U X.K X.mw E (mLstR mr)) :=
  PE.imp (pe_lst h) fun σ H Q ⟨Hd, es, eh, xc, q, R, xo, m, k⟩ => ⟨Hd, es, eh, xc, _, R, xo, m, fun eh1 H1 xs vs s1 R1 r1 m1 =>
    ⟨by rw [← r1.length]; exact m1.1, fun p hp => k _ _ (.ref p) (.ref p) (s1.trans (.new hp)) (R1.new (eo := .lst xs) hp ⟨vs, upd_same, r1.step (.new hp)⟩) rfl (m1.2 p (R1.fresh hp))⟩⟩
end

/-! ### statements -/
def sNext : MS := fun _ d es eh => d.nx es eh
def sSeq (t u : MS) : MS := fun xc d es eh => t xc { d with nx := fun es' eh' => u xc d es' eh' } es eh
def sBreak : MS := fun _ d es eh => d.bk es eh
def sCont : MS := fun _ d es eh => d.ct es eh
def sExpr (m : ME) : MS := fun xc d es eh => m xc es eh fun _ eh1 => d.nx es eh1
def sRet (m : ME) : MS := fun xc d es eh => m xc es eh d.rt
def sRetN : MS := fun _ d _ eh => d.rt .non eh
def sIf (c : MT) (t u : MS) : MS := fun xc d es eh => c xc es eh fun b eh1 => match b with | true => t xc d es eh1 | false => u xc d es eh1
def sNever : MS := fun _ _ _ _ => False
def sSet (i : Nat) (m : ME) : MS := fun xc d es eh => m xc es eh fun x eh1 => d.nx (es.set i (some x)) eh1
section
variable {X : Cx} {E : XK} {e : Expr} {ma : ME} {mt : MT} {pos : Pos} {st : Stmt} {rest : List Stmt} {ms mu : MS}
theorem rs_nil : PSs X [] (US X.K X.mw E sNext) := PSs.imp pss_nil fun D σ H ⟨Hd, es, eh, xc, d, R, xo, m, k1, k2, k3, k4⟩ => k1 es eh σ H .refl R m
theorem rs_one (h : PS X st (US X.K X.mw E ms)) : PSs X [st] (US X.K X.mw E ms) := pss_one h
theorem rs_cons (h1 : PS X st (US X.K X.mw E ms)) (h2 : PSs X rest (US X.K X.mw E mu)) : PSs X (st :: rest) (US X.K X.mw E (sSeq ms mu)) :=
  PSs.imp (pss_cons h1 h2) fun D σ H ⟨Hd, es, eh, xc, d, R, xo, m, k1, k2, k3, k4⟩ => ⟨Hd, es, eh, xc, _, R, xo, m, fun es1 eh1 σ1 H1 s1 R1 m1 =>
    ⟨Hd, es1, eh1, xc, d, R1, xo.step s1, m1, fun es2 eh2 σ2 H2 s2 => k1 es2 eh2 σ2 H2 (s1.trans s2), fun eh2 H2 x v s2 => k2 eh2 H2 x v (s1.trans s2), fun es2 eh2 σ2 H2 s2 => k3 es2 eh2 σ2 H2 (s1.trans s2), fun es2 eh2 σ2 H2 s2 => k4 es2 eh2 σ2 H2 (s1.trans s2)⟩, k2, k3, k4⟩
theorem rs_never : PS X st (US X.K X.mw E sNever) := PS.imp ps_never fun D σ H ⟨Hd, es, eh, xc, d, R, xo, m, k1, k2, k3, k4⟩ => m.elim
theorem rs_expr (he : PE X e (U X.K X.mw E ma)) (hs : swapsWith e none pos.line X.env = pure false := by rfl) : PS X (.Expr e pos) (US X.K X.mw E (sExpr ma)) :=
  PS.imp (ps_expr he hs) fun D σ H ⟨Hd, es, eh, xc, d, R, xo, m, k1, k2, k3, k4⟩ => ⟨Hd, es, eh, xc, _, R, xo, m, fun eh1 H1 x v s1 R1 r1 m1 => k1 es eh1 σ H1 s1 (R.step s1 R1) m1⟩
theorem rs_ret (he : PE X e (U X.K X.mw E ma)) : PS X (.Return (some e) pos) (US X.K X.mw E (sRet ma)) :=
  PS.imp (ps_ret he) fun D σ H ⟨Hd, es, eh, xc, d, R, xo, m, k1, k2, k3, k4⟩ => ⟨Hd, es, eh, xc, _, R, xo, m, k2⟩
theorem rs_if {c : Expr} {a b : List Stmt} (hc : PT X c (UT X.K X.mw E mt)) (ha : PSs X a (US X.K X.mw E ms)) (hb : PSs X b (US X.K X.mw E mu)) : PS X (.If c a b pos) (US X.K X.mw E (sIf mt ms mu)) :=
  PS.imp (ps_if hc ha hb) fun D σ H ⟨Hd, es, eh, xc, d, R, xo, m, k1, k2, k3, k4⟩ => ⟨Hd, es, eh, xc, _, R, xo, m, fun eh1 H1 c s1 R1 m1 => by
    cases c with
    | true => exact iteT ⟨Hd, es, eh1, xc, d, R.step s1 R1, xo.step s1, m1, fun es2 eh2 σ2 H2 s2 => k1 es2 eh2 σ2 H2 (s1.trans s2), fun eh2 H2 x v s2 => k2 eh2 H2 x v (s1.trans s2), fun es2 eh2 σ2 H2 s2 => k3 es2 eh2 σ2 H2 (s1.trans s2), fun es2 eh2 σ2 H2 s2 => k4 es2 eh2 σ2 H2 (s1.trans s2)⟩
    | false => exact iteF ⟨Hd, es, eh1, xc, d, R.step s1 R1, xo.step s1, m1, fun es2 eh2 σ2 H2 s2 => k1 es2 eh2 σ2 H2 (s1.trans s2), fun eh2 H2 x v s2 => k2 eh2 H2 x v (s1.trans s2), fun es2 eh2 σ2 H2 s2 => k3 es2 eh2 σ2 H2 (s1.trans s2), fun es2 eh2 σ2 H2 s2 => k4 es2 eh2 σ2 H2 (s1.trans s2)⟩⟩
theorem Rl.set {K mg Hd} {eh : Eh} {H : Hp} {es : Es} {σ : L2.St} {i : Nat} {x : EV} {v : V} (R : Rl K mg Hd eh H es σ) (r : Rp K mg Hd eh H x v) : Rl K mg Hd eh H (es.set i (some x)) (σ.set i (some v)) := by
  refine ⟨by simp [R.len], fun j y e => ?_, R.obj⟩
  by_cases h : i = j
  · subst h
    rw [List.getElem?_set] at e
    simp only [ite_true] at e
    split at e
    · rename_i hl
      cases e
      exact ⟨v, by rw [List.getElem?_set]; simp [R.len ▸ hl], r⟩
    · cases e
  · rw [List.getElem?_set_ne h] at e
    obtain ⟨w, hw, q⟩ := R.loc j y e
    exact ⟨w, by rw [List.getElem?_set_ne h]; exact hw, q⟩
theorem rs_set {i : Nat} {x : Str} {pos' : Pos} (hN : X.N.Nodup) (he : PE X e (U X.K X.mw E ma)) (hi : X.N[i]? = some x := by rfl) (hx : Loc X.env.scope x := by first | exact Or.inl rfl | exact Or.inr rfl) (hs : swapsWith e (some (.Name x pos')) pos.line X.env = pure false := by rfl)
    (hf : X.fn x = true ∨ X.env.scope.names.lookup x = some .local := by first | exact .inl rfl | exact .inr rfl) : PS X (.Assign [.Name x pos'] e pos) (US X.K X.mw E (sSet i ma)) :=
  PS.imp (ps_set hN hi hx he hs hf) fun D σ H ⟨Hd, es, eh, xc, d, R, xo, m, k1, k2, k3, k4⟩ => ⟨Hd, es, eh, xc, _, R, xo, m, fun eh1 H1 x v s1 R1 r1 m1 => k1 _ eh1 _ H1 s1 ((R.step s1 R1).set r1) m1⟩
end
end VM

/-! VM3: operators by values: +, -, *, //, %, **, comparisons, in, is, subscripts, slices; data read off the heap (Dat). -/
namespace VM
open PySem PySem.Spec PyProof.Rows L2

/-! ### data -/
inductive Dat (eh : Eh) : EV → PyData → Prop
  | non : Dat eh .non .none
  | bl (b) : Dat eh (.bl b) (.bool b)
  | int (i) : Dat eh (.int i) (.int i)
  | str (x) : Dat eh (.str x) (.str x)
  | scr (ns) : Dat eh (.scr ns) (.list (ns.map .int))
  | tup {xs : List EV} {ds : List PyData} : xs.length = ds.length → (∀ (i : Nat) x d, xs[i]? = some x → ds[i]? = some d → Dat eh x d) → Dat eh (.tup xs) (.tuple ds)
  | lst {xs : List EV} {ds : List PyData} : xs.length = ds.length → (∀ (i : Nat) x d, xs[i]? = some x → ds[i]? = some d → Dat eh x d) → Dat eh (.lst xs) (.list ds)
  | ref {a : Addr} {xs : List EV} {ds : List PyData} : eh a = some (.lst xs) → xs.length = ds.length → (∀ (i : Nat) x d, xs[i]? = some x → ds[i]? = some d → Dat eh x d) → Dat eh (.ref a) (.list ds)
mutual
def D : EV → PyData
  | .bl b => .bool b
  | .int i => .int i
  | .str x => .str x
  | .tup xs => .tuple (DL xs)
  | .lst xs => .list (DL xs)
  | _ => .none
def DL : List EV → List PyData
  | [] => []
  | x :: xs => D x :: DL xs
end
mutual
/-- data without references -/
def isD : EV → Bool
  | .non => true
  | .bl _ => true
  | .int _ => true
  | .str _ => true
  | .tup xs => isDL xs
  | .lst xs => isDL xs
  | _ => false
def isDL : List EV → Bool
  | [] => true
  | x :: xs => isD x && isDL xs
end
theorem DL_map : ∀ xs, DL xs = xs.map D
  | [] => rfl
  | x :: xs => by simp [DL, DL_map xs]
mutual
theorem Dat.of (eh : Eh) : ∀ {x : EV}, isD x = true → Dat eh x (D x)
  | .non, _ => .non
  | .bl b, _ => .bl b
  | .int i, _ => .int i
  | .str x, _ => .str x
  | .tup xs, h => .tup (by rw [DL_map]; simp) (Dat.ofL eh (show isDL xs = true from h))
  | .lst xs, h => .lst (by rw [DL_map]; simp) (Dat.ofL eh (show isDL xs = true from h))
theorem Dat.ofL (eh : Eh) : ∀ {xs : List EV}, isDL xs = true → ∀ (i : Nat) x d, xs[i]? = some x → (DL xs)[i]? = some d → Dat eh x d
  | [], _, _, _, _, e, _ => by simp at e
  | x :: xs, h, 0, y, d, e, e' => by
    simp [DL] at e e'; subst e; subst e'
    exact Dat.of eh (by simp [isDL] at h; exact h.1)
  | x :: xs, h, i + 1, y, d, e, e' => Dat.ofL eh (by simp [isDL] at h; exact h.2) i y d (by simpa using e) (by simpa [DL] using e')
end

theorem readsAll_of {h : Heap} : ∀ {us : List Value} {ds : List PyData}, us.length = ds.length → (∀ (i : Nat) u d, us[i]? = some u → ds[i]? = some d → ∃ as, Reads h u d as) → ∃ as, ReadsAll h us ds as
  | [], [], _, _ => ⟨_, .nil⟩
  | u :: us, d :: ds, hl, k => by
    obtain ⟨as, r⟩ := k 0 u d rfl rfl
    obtain ⟨bs, t⟩ := readsAll_of (us := us) (ds := ds) (by simpa using hl) fun i u d e e' => k (i + 1) u d (by simpa using e) (by simpa using e')
    exact ⟨_, .cons r t⟩
  | [], _ :: _, hl, _ => by simp at hl
  | _ :: _, [], hl, _ => by simp at hl
theorem vals_get2 {vs : List V} {us : List Value} {i : Nat} {u : Value} (r : Vals vs us) (h : us[i]? = some u) : ∃ v, vs[i]? = some v ∧ RelV v u := by
  have hl := r.length
  obtain ⟨hi, e⟩ := List.getElem?_eq_some_iff.mp h
  have hv : vs[i]? = some (vs[i]'(by omega)) := List.getElem?_eq_getElem _
  obtain ⟨w, hw, q⟩ := r.get hv
  rw [h] at hw; cases hw
  exact ⟨_, hv, q⟩
section
variable {X : Cx} {pins : List (Addr × Obj)} {σ : L2.St} {H : Hp} {s : Shared} {eh : Eh}
theorem reads_items (I : Inv X pins σ H s) {xs : List EV} {vs : List V} {us : List Value} {ds : List PyData} (r : RpL X.K X.mw Hd eh H xs vs) (rv : Vals vs us) (hl : xs.length = ds.length)
    (ih : ∀ (i : Nat) x d, xs[i]? = some x → ds[i]? = some d → ∀ v u, Rp X.K X.mw Hd eh H x v → RelV v u → ∃ as, Reads s.heap u d as) : ∃ as, ReadsAll s.heap us ds as := by
  refine readsAll_of (by rw [← rv.length, ← r.length, hl]) fun i u d e e' => ?_
  obtain ⟨v, hv, q⟩ := vals_get2 rv e
  obtain ⟨x, hx, p⟩ := r.get' hv
  exact ih i x d hx e' v u p q
theorem Dat.reads (I : Inv X pins σ H s) (R : Rh X.K X.mw Hd eh H) {x : EV} {d : PyData} (h : Dat eh x d) : ∀ v u, Rp X.K X.mw Hd eh H x v → RelV v u → ∃ as, Reads s.heap u d as := by
  induction h with
  | non => intro v u r q; cases r; cases q; exact ⟨_, .none⟩
  | bl b => intro v u r q; cases r; cases q; exact ⟨_, .bool b⟩
  | int i => intro v u r q; cases r; obtain ⟨t, rfl⟩ := q; exact ⟨_, .int i t⟩
  | str x => intro v u r q; cases r; obtain ⟨t, rfl⟩ := q; exact ⟨_, .str x t⟩
  | scr ns =>
    intro v u r q
    obtain ⟨a, rfl, e⟩ := r
    cases q
    obtain ⟨its, rv, ⟨ob, n, e1, e2, e3, e4⟩, hz⟩ := I.list e.sq
    obtain ⟨as, t⟩ := readsAll_of (h := s.heap) (us := its) (ds := ns.map .int) (by rw [← rv.length]; simp) fun i u d hu hd => by
      obtain ⟨v, hv, q⟩ := vals_get2 rv hu
      simp only [List.getElem?_map, Option.map_eq_some_iff] at hv hd
      obtain ⟨n1, hn1, rfl⟩ := hv
      obtain ⟨n2, hn2, rfl⟩ := hd
      rw [hn1] at hn2; cases hn2
      obtain ⟨t, rfl⟩ := q
      exact ⟨_, .int _ t⟩
    exact ⟨_, .list e1 e2 e4 (by simpa using t)⟩
  | tup hl _ ih =>
    intro v u r q
    obtain ⟨a, vs, rfl, ht, r⟩ := r
    cases q
    obtain ⟨its, rv, ⟨o, e1, e2, n, e3⟩, hz⟩ := I.tuple ht
    obtain ⟨as, t⟩ := reads_items I r rv hl ih
    exact ⟨_, .tuple e1 e2 e3 (by simpa using t)⟩
  | lst hl _ ih =>
    intro v u r q
    obtain ⟨a, vs, rfl, ht, _, r⟩ := r
    cases q
    obtain ⟨its, rv, ⟨o, n, e1, e2, e3, e4⟩, hz⟩ := I.list (.inl (.inl ht))
    obtain ⟨as, t⟩ := reads_items I r rv hl ih
    exact ⟨_, .list e1 e2 e4 (by simpa using t)⟩
  | ref he hl _ ih =>
    intro v u r q
    cases r
    cases q
    obtain ⟨vs, ht, r⟩ := R.ob _ _ he
    obtain ⟨its, rv, ⟨o, n, e1, e2, e3, e4⟩, hz⟩ := I.list (.inl (.inl ht))
    obtain ⟨as, t⟩ := reads_items I r rv hl ih
    exact ⟨_, .list e1 e2 e4 (by simpa using t)⟩
end

/-! ### places that hold lists and tuples -/
def lstE (eh : Eh) : EV → Option (List EV)
  | .lst xs => some xs
  | .ref a => match eh a with | some (.lst xs) => some xs | _ => none
  | _ => none
/-- what is read as a sequence -/
def seqE (eh : Eh) : EV → Option (List EV)
  | .tup xs => some xs
  | .lst xs => some xs
  | .scr ns => some (ns.map .int)
  | .ref a => match eh a with | some (.lst xs) => some xs | _ => none
  | _ => none
def dctE (eh : Eh) : EV → Option (List (Key × EV))
  | .dct xs => some xs
  | .ref a => match eh a with | some (.dct xs) => some xs | _ => none
  | _ => none
section
variable {K : PySem.W.Frag} {mg : MW} {Hd : Addr → Prop} {eh : Eh} {H : Hp}
theorem lst_of (R : Rh K mg Hd eh H) {x : EV} {v : V} {xs : List EV} (r : Rp K mg Hd eh H x v) (e : lstE eh x = some xs) : ∃ a vs, v = .ref a ∧ H a = some (.lst vs) ∧ RpL K mg Hd eh H xs vs := by
  cases x with
  | lst ys => cases e; obtain ⟨a, vs, e, h, _, t⟩ := r; exact ⟨a, vs, e, h, t⟩
  | ref a =>
    cases r
    simp only [lstE] at e
    cases h : eh a with
    | none => rw [h] at e; cases e
    | some o =>
      rw [h] at e
      cases o with
      | lst ys => cases e; obtain ⟨vs, h, t⟩ := R.ob a _ h; exact ⟨a, vs, rfl, h, t⟩
      | _ => cases e
  | _ => cases e
theorem seq_of (R : Rh K mg Hd eh H) {x : EV} {v : V} {xs : List EV} (r : Rp K mg Hd eh H x v) (e : seqE eh x = some xs) : ∃ a vs, v = .ref a ∧ (SqL K H a vs ∨ SqT K H a vs) ∧ RpL K mg Hd eh H xs vs := by
  cases x with
  | tup ys => cases e; obtain ⟨a, vs, e, h, t⟩ := r; exact ⟨a, vs, e, .inr h, t⟩
  | scr ns => cases e; obtain ⟨a, e, h⟩ := r; exact ⟨a, _, e, .inl h.sq, RpL.of_ints ns⟩
  | lst ys => cases e; obtain ⟨a, vs, e, h, _, t⟩ := r; exact ⟨a, vs, e, .inl (.inl (.inl h)), t⟩
  | ref a =>
    cases r
    simp only [seqE] at e
    cases h : eh a with
    | none => rw [h] at e; cases e
    | some o =>
      rw [h] at e
      cases o with
      | lst ys => cases e; obtain ⟨vs, h, t⟩ := R.ob a _ h; exact ⟨a, vs, rfl, .inl (.inl (.inl h)), t⟩
      | _ => cases e
  | _ => cases e
theorem dct_of (R : Rh K mg Hd eh H) {x : EV} {v : V} {xs : List (Key × EV)} (r : Rp K mg Hd eh H x v) (e : dctE eh x = some xs) : ∃ a us, v = .ref a ∧ Rd H a (.dK us) ∧ RpK K mg Hd eh H xs us := by
  cases x with
  | dct ys => cases e; obtain ⟨a, o, us, e, h, t⟩ := r; exact ⟨a, us, e, .inr ⟨o, h⟩, t⟩
  | ref a =>
    cases r
    simp only [dctE] at e
    cases h : eh a with
    | none => rw [h] at e; cases e
    | some o =>
      rw [h] at e
      cases o with
      | dct ys => cases e; obtain ⟨us, h, t⟩ := R.ob a _ h; exact ⟨a, us, rfl, .inl h, t⟩
      | _ => cases e
  | _ => cases e
end

/-! ### arithmetic -/
def MulC (i j : Int) : Prop := ((-(2 ^ 64) < i ∧ i < 2 ^ 64) ∨ (-(2 ^ 64) < j ∧ j < 2 ^ 64)) ∨ (Builtin.Int.intBits i : Int) + (Builtin.Int.intBits j : Int) ≤ 134217728
def oAdd : EO2 := fun x y eh q => match x, y with
  | .int i, .int j => q (.int (i + j)) eh
  | .str i, .str j => i.length + j.length ≤ sizeLine ∧ q (.str (i ++ j)) eh
  | .tup xs, .tup ys => xs ≠ [] ∧ xs.length + ys.length ≤ sizeLine ∧ q (.tup (xs ++ ys)) eh
  | x, y => ∃ xs ys, lstE eh x = some xs ∧ lstE eh y = some ys ∧ xs.length + ys.length ≤ sizeLine ∧ q (.lst (xs ++ ys)) eh
def oSub : EO2 := fun x y eh q => match x, y with
  | .int i, .int j => q (.int (i - j)) eh
  | _, _ => False
def oMul : EO2 := fun x y eh q => match x, y with
  | .int i, .int j => MulC i j ∧ q (.int (i * j)) eh
  | x, .int k => ∃ xs, lstE eh x = some xs ∧ -(2 ^ 63) ≤ k ∧ k < 2 ^ 63 ∧ xs.length * k.toNat ≤ sizeLine ∧ q (.lst (List.replicate k.toNat xs).flatten) eh
  | _, _ => False
def oDiv : EO2 := fun x y eh q => match x, y with
  | .int i, .int j => (0 < j ∧ j.natAbs.log2 < 9000) ∧ q (.int (i / j)) eh
  | _, _ => False
def oMod : EO2 := fun x y eh q => match x, y with
  | .int i, .int j => 0 < j ∧ q (.int (i % j)) eh
  | _, _ => False
def oPow : EO2 := fun x y eh q => match x, y with
  | .int i, .int j => (0 ≤ j ∧ (Builtin.Int.intBits i : Int) * j ≤ 2 ^ 27) ∧ q (.int (i ^ j.toNat)) eh
  | _, _ => False
def oNeg : EO1 := fun x eh q => match x with
  | .int i => q (.int (-i)) eh
  | _ => False
section
variable {X : Cx}
theorem vo_int {f : Value → Value → Sem Value} {C : Int → Int → Prop} {g : Int → Int → V} {g' : Int → Int → EV} {o : EO2} (h : OpR X f (rI C g)) (ho : ∀ x y eh q, o x y eh q → ∃ i j, x = .int i ∧ y = .int j ∧ C i j ∧ q (g' i j) eh)
    (hg : ∀ Hd eh H i j, Rp X.K X.mw Hd eh H (g' i j) (g i j)) : OpR X f (U2 X.K X.mw o) :=
  OpR.imp h fun v u H Q ⟨Hd, eh, x, y, q, R, rx, ry, m, k⟩ => by
    obtain ⟨i, j, rfl, rfl, c, m⟩ := ho x y eh q m
    cases rx; cases ry
    exact ⟨i, j, rfl, rfl, c, k eh H _ _ .refl R (hg _ _ _ _ _) m⟩
theorem vo_int0 {f : Value → Value → Sem Value} {g : Int → Int → V} {g' : Int → Int → EV} {o : EO2} (h : OpR X f (rI0 g)) (ho : ∀ x y eh q, o x y eh q → ∃ i j, x = .int i ∧ y = .int j ∧ q (g' i j) eh)
    (hg : ∀ Hd eh H i j, Rp X.K X.mw Hd eh H (g' i j) (g i j)) : OpR X f (U2 X.K X.mw o) :=
  OpR.imp h fun v u H Q ⟨Hd, eh, x, y, q, R, rx, ry, m, k⟩ => by
    obtain ⟨i, j, rfl, rfl, m'⟩ := ho x y eh q m
    cases rx; cases ry
    exact ⟨i, j, rfl, rfl, k eh H _ _ .refl R (hg _ _ _ _ _) m'⟩
theorem OpR.false {f : Value → Value → Sem Value} : OpR X f (fun _ _ _ _ => False) := fun _ _ _ _ _ _ _ _ _ _ _ _ h => h.elim
theorem op_sub_int : OpR X (binaryOp .Sub) (U2 X.K X.mw oSub) := vo_int0 (g' := fun i j => .int (i - j)) op_sub (fun x y eh q h => by
  unfold oSub at h; split at h
  · exact ⟨_, _, rfl, rfl, h⟩
  · exact h.elim) fun _ _ _ _ _ => rfl
theorem op_div_int : OpR X (binaryOp .FloorDiv) (U2 X.K X.mw oDiv) := vo_int (g' := fun i j => .int (i / j)) op_fdivW (fun x y eh q h => by
  unfold oDiv at h; split at h
  · exact ⟨_, _, rfl, rfl, h.1, h.2⟩
  · exact h.elim) fun _ _ _ _ _ => rfl
theorem op_mod_int : OpR X (binaryOp .Mod) (U2 X.K X.mw oMod) := vo_int (g' := fun i j => .int (i % j)) op_mod (fun x y eh q h => by
  unfold oMod at h; split at h
  · exact ⟨_, _, rfl, rfl, h.1, h.2⟩
  · exact h.elim) fun _ _ _ _ _ => rfl
theorem op_powB : OpR X (binaryOp .Pow) (rI (fun i j => 0 ≤ j ∧ (Builtin.Int.intBits i : Int) * j ≤ 2 ^ 27) fun i j => .int (i ^ j.toNat)) := opI fun _ _ _ _ _ _ _ hc q => pow_int hc.1 hc.2 q
theorem op_pow_int : OpR X (binaryOp .Pow) (U2 X.K X.mw oPow) := vo_int (g' := fun i j => .int (i ^ j.toNat)) op_powB (fun x y eh q h => by
  unfold oPow at h; split at h
  · exact ⟨_, _, rfl, rfl, h.1, h.2⟩
  · exact h.elim) fun _ _ _ _ _ => rfl
theorem un_neg_int : UnR X (unaryOp .USub) (U1 X.K X.mw oNeg) := by
  intro pins s σ H v a Q I r1 ⟨Hd, eh, x, q, R, rx, m, k⟩
  unfold oNeg at m
  split at m
  · cases rx
    exact un_neg pins s σ H _ a Q I r1 ⟨_, rfl, k eh H (.int _) (.int _) .refl R rfl m⟩
  · exact m.elim
theorem op_cat2 : OpR X (binaryOp .Add) (U2 X.K X.mw fun x y eh q => ∃ xs ys, lstE eh x = some xs ∧ lstE eh y = some ys ∧ xs.length + ys.length ≤ sizeLine ∧ q (.lst (xs ++ ys)) eh) :=
  OpR.imp op_cat fun v u H Q ⟨Hd, eh, x, y, q, R, rx, ry, ⟨xs, ys, ex, ey, hl, m⟩, k⟩ => by
    obtain ⟨a, vs, rfl, ha, ra⟩ := lst_of R rx ex
    obtain ⟨b, us, rfl, hb, rb⟩ := lst_of R ry ey
    exact ⟨a, b, vs, us, rfl, rfl, ha, hb, by rw [← ra.length, ← rb.length]; exact hl, fun p hp => k eh _ (.lst (xs ++ ys)) (.ref p) (.newF hp) (R.newF hp) ⟨p, _, rfl, upd_same, ⟨R.fresh hp, R.notHid hp⟩, (ra.append rb).step (.newF hp)⟩ m⟩
theorem op_add_any : OpR X (binaryOp .Add) (U2 X.K X.mw oAdd) := by
  intro pins s σ H v u a b Q I r1 r2 ⟨Hd, eh, x, y, q, R, rx, ry, m, k⟩
  unfold oAdd at m
  split at m
  · cases rx; cases ry
    exact op_add pins s σ H _ _ a b Q I r1 r2 ⟨_, _, rfl, rfl, k eh H (.int _) (.int _) .refl R rfl m⟩
  · cases rx; cases ry
    exact op_add_str pins s σ H _ _ a b Q I r1 r2 ⟨_, _, rfl, rfl, m.1, k eh H (.str _) (.str _) .refl R rfl m.2⟩
  · rename_i xs ys
    obtain ⟨p, vs, rfl, hp, rp⟩ := rx
    obtain ⟨p', us, rfl, hp', rp'⟩ := ry
    refine op_catT pins s σ H _ _ a b Q I r1 r2 ⟨p, p', vs, us, rfl, rfl, hp, hp', ?_, by rw [← rp.length, ← rp'.length]; exact m.2.1, ?_, ?_⟩
    · intro z; subst z; have := rp.length; cases xs with
      | nil => exact m.1 rfl
      | cons _ _ => simp at this
    · intro z; subst z
      have : ys = [] := by cases ys with
        | nil => rfl
        | cons _ _ => have := rp'.length; simp at this
      subst this
      exact k eh H (.tup (xs ++ [])) (.ref p) .refl R ⟨p, vs, rfl, hp, by simpa using rp⟩ m.2.2
    · intro _ t ht
      exact k eh _ (.tup (xs ++ ys)) (.ref t) (.newF ht) (R.newF ht) ⟨t, _, rfl, .inl (.inl upd_same), (rp.append rp').step (.newF ht)⟩ m.2.2
  · exact op_cat2 pins s σ H v u a b Q I r1 r2 ⟨Hd, eh, x, y, q, R, rx, ry, m, k⟩
theorem op_mul_any : OpR X (binaryOp .Mult) (U2 X.K X.mw oMul) := by
  intro pins s σ H v u a b Q I r1 r2 ⟨Hd, eh, x, y, q, R, rx, ry, m, k⟩
  unfold oMul at m
  split at m
  · cases rx; cases ry
    obtain ⟨c | c, m⟩ := m
    · exact op_mul pins s σ H _ _ a b Q I r1 r2 ⟨_, _, rfl, rfl, c, k eh H (.int _) (.int _) .refl R rfl m⟩
    · exact op_mulX pins s σ H _ _ a b Q I r1 r2 ⟨_, _, rfl, rfl, c, k eh H (.int _) (.int _) .refl R rfl m⟩
  · cases ry
    obtain ⟨xs, ex, h1, h2, h3, m⟩ := m
    obtain ⟨p, vs, rfl, hp, rp⟩ := lst_of R rx ex
    refine op_rep pins s σ H _ _ a b Q I r1 r2 ⟨p, _, vs, rfl, rfl, hp, h1, h2, by rw [← rp.length]; exact h3, fun t ht => k eh _ (.lst _) (.ref t) (.newF ht) (R.newF ht) ⟨t, _, rfl, upd_same, ⟨R.fresh ht, R.notHid ht⟩, ?_⟩ m⟩
    rename_i kk _
    have : ∀ n : Nat, RpL X.K X.mw Hd eh (upd H t (.lst (List.replicate kk.toNat vs).flatten)) (List.replicate n xs).flatten (List.replicate n vs).flatten := by
      intro n
      induction n with
      | zero => exact rfl
      | succ n ih => simp only [List.replicate_succ, List.flatten_cons]; exact (rp.step (.newF ht)).append ih
    exact this _
  · exact m.elim

/-! ### comparisons -/
def cInt (p : Int → Int → Bool) : EO2 := fun x y eh q => match x, y with
  | .int i, .int j => q (.bl (p i j)) eh
  | _, _ => False
abbrev oLt : EO2 := cInt fun i j => decide (i < j)
abbrev oLe : EO2 := cInt fun i j => decide (i ≤ j)
abbrev oGt : EO2 := cInt fun i j => decide (j < i)
abbrev oGe : EO2 := cInt fun i j => decide (j ≤ i)
theorem cInt_ok {f : Value → Value → Sem Value} {p : Int → Int → Bool} (h : OpR X f (rI0 fun i j => .bl (p i j))) : OpR X f (U2 X.K X.mw (cInt p)) :=
  vo_int0 (g' := fun i j => .bl (p i j)) h (fun x y eh q h => by
    unfold cInt at h; split at h
    · exact ⟨_, _, rfl, rfl, h⟩
    · exact h.elim) fun _ _ _ _ _ => rfl
theorem op_lt_int : OpR X (compareOp .Lt) (U2 X.K X.mw oLt) := cInt_ok op_lt
theorem op_le_int : OpR X (compareOp .LtE) (U2 X.K X.mw oLe) := cInt_ok op_le
theorem op_gt_int : OpR X (compareOp .Gt) (U2 X.K X.mw oGt) := cInt_ok op_gt
theorem op_ge_int : OpR X (compareOp .GtE) (U2 X.K X.mw oGe) := cInt_ok op_ge
/-- two data compared -/
def cEq (neg : Bool) : EO2 := fun x y eh q => match x, y with
  | .int i, .int j => q (.bl (neg ^^ decide (i = j))) eh
  | .str i, .str j => q (.bl (neg ^^ decide (i = j))) eh
  | .bl i, .bl j => q (.bl (neg ^^ decide (i = j))) eh
  | .non, .non => q (.bl (neg ^^ true)) eh
  | x, y => ∃ d e, Dat eh x d ∧ Dat eh y e ∧ d.plain = true ∧ e.plain = true ∧ min d.depth e.depth ≤ 60 ∧ q (.bl (neg ^^ PyData.eqv d e)) eh
theorem op_eq_any {k : Nat} (hr : RoomG k X.A) : OpR X (compareOp .Eq) (U2 X.K X.mw (cEq false)) := by
  have hu := hr.units
  intro pins s σ H v u a b Q I r1 r2 ⟨Hd, eh, x, y, q, R, rx, ry, m, k⟩
  unfold cEq at m
  split at m
  · cases rx; cases ry
    exact op_eq pins s σ H _ _ a b Q I r1 r2 ⟨rfl, k eh H _ _ .refl R (by simp [Rp]) m⟩
  · cases rx; cases ry
    exact op_eq pins s σ H _ _ a b Q I r1 r2 ⟨rfl, k eh H _ _ .refl R (by simp [Rp]) m⟩
  · cases rx; cases ry
    exact op_eq pins s σ H _ _ a b Q I r1 r2 ⟨rfl, k eh H _ _ .refl R (by simp [Rp]) m⟩
  · cases rx; cases ry
    exact op_eq pins s σ H _ _ a b Q I r1 r2 ⟨rfl, k eh H _ _ .refl R (by simp [Rp]) m⟩
  · obtain ⟨d, e, hd, he, pd, pe, hz, m⟩ := m
    obtain ⟨as, ra⟩ := hd.reads I R _ _ rx r1
    obtain ⟨bs, rb⟩ := he.reads I R _ _ ry r2
    exact SeqAt.eq_plain ra rb pd pe (by omega) ⟨.bl (PyData.eqv d e), H, I, rfl, k eh H (.bl _) _ .refl R (by simp [Rp]) m⟩
theorem op_ne_any {k : Nat} (hr : RoomG k X.A) : OpR X (compareOp .NotEq) (U2 X.K X.mw (cEq true)) := by
  have hu := hr.units
  intro pins s σ H v u a b Q I r1 r2 ⟨Hd, eh, x, y, q, R, rx, ry, m, k⟩
  unfold cEq at m
  split at m
  · cases rx; cases ry
    exact op_ne pins s σ H _ _ a b Q I r1 r2 ⟨rfl, k eh H _ _ .refl R (by simp [Rp]) m⟩
  · cases rx; cases ry
    exact op_ne pins s σ H _ _ a b Q I r1 r2 ⟨rfl, k eh H _ _ .refl R (by simp [Rp]) m⟩
  · cases rx; cases ry
    exact op_ne pins s σ H _ _ a b Q I r1 r2 ⟨rfl, k eh H _ _ .refl R (by simp [Rp]) m⟩
  · cases rx; cases ry
    exact op_ne pins s σ H _ _ a b Q I r1 r2 ⟨rfl, k eh H _ _ .refl R (by simp [Rp]) m⟩
  · obtain ⟨d, e, hd, he, pd, pe, hz, m⟩ := m
    obtain ⟨as, ra⟩ := hd.reads I R _ _ rx r1
    obtain ⟨bs, rb⟩ := he.reads I R _ _ ry r2
    exact SeqAt.ne_plain ra rb pd pe (by omega) ⟨.bl (!PyData.eqv d e), H, I, rfl, k eh H (.bl _) _ .refl R (by simp [Rp]) m⟩
/-- is None, is not None -/
def cIsN (neg : Bool) : EO2 := fun x y eh q => match y with
  | .non => (match x with
    | .non => q (.bl (neg ^^ true)) eh
    | .glo _ => False
    | _ => q (.bl (neg ^^ false)) eh)
  | _ => False
theorem isN_of {K mg Hd} {eh : Eh} {H : Hp} {x : EV} {v : V} (r : Rp K mg Hd eh H x v) (h : ∀ y, x ≠ .glo y) : decide (v = .non) = (match x with | .non => true | _ => false) := by
  cases x with
  | non => cases r; rfl
  | glo y => exact absurd rfl (h y)
  | bl _ => cases r; rfl
  | int _ => cases r; rfl
  | str _ => cases r; rfl
  | ty _ => cases r; rfl
  | ref _ => cases r; rfl
  | scr _ => obtain ⟨a, rfl, _⟩ := r; rfl
  | tup _ => obtain ⟨a, vs, rfl, _⟩ := r; rfl
  | lst _ => obtain ⟨a, vs, rfl, _⟩ := r; rfl
  | dct _ => obtain ⟨a, o, vs, rfl, _⟩ := r; rfl
  | obj _ _ => obtain ⟨a, c, dx, us, rfl, _⟩ := r; rfl
  | exc _ _ => obtain ⟨a, c, d, u, rfl, _⟩ := r; rfl
  | exa _ _ _ => obtain ⟨a, c, d, u, ⟨rfl, _⟩, _⟩ := r; rfl
  | dn _ => obtain ⟨a, o, ys, us, rfl, _⟩ := r; rfl
theorem op_is_n : OpR X (compareOp .Is) (U2 X.K X.mw (cIsN false)) :=
  OpR.imp op_isN fun v u H Q ⟨Hd, eh, x, y, q, R, rx, ry, m, k⟩ => by
    cases y with
    | non =>
      cases ry
      refine ⟨rfl, ?_⟩
      unfold cIsN at m
      cases x with
      | glo z => exact m.elim
      | _ => rw [isN_of rx (fun _ z => nomatch z)]; exact k eh H (.bl _) (.bl _) .refl R rfl m
    | _ => exact m.elim
theorem op_isnot_n : OpR X (compareOp .IsNot) (U2 X.K X.mw (cIsN true)) :=
  OpR.imp op_notN fun v u H Q ⟨Hd, eh, x, y, q, R, rx, ry, m, k⟩ => by
    cases y with
    | non =>
      cases ry
      refine ⟨rfl, ?_⟩
      unfold cIsN at m
      cases x with
      | glo z => exact m.elim
      | _ => rw [isN_of rx (fun _ z => nomatch z)]; exact k eh H (.bl _) (.bl _) .refl R rfl m
    | _ => exact m.elim
/-- in: a sequence of data, a text, a dict -/
def keyE : EV → Option Key
  | .int i => some (.inl i)
  | .str x => some (.inr x)
  | _ => none
theorem keyE_of {K mg Hd} {eh : Eh} {H : Hp} {x : EV} {v : V} {k : Key} (r : Rp K mg Hd eh H x v) (h : keyE x = some k) : v = kV k := by
  cases x with
  | int i => cases h; exact r
  | str i => cases h; exact r
  | _ => cases h
def getK : List (Key × EV) → Key → Option EV
  | [], _ => none
  | (k', x) :: r, k => if k' = k then some x else getK r k
def cIn (neg : Bool) : EO2 := fun x y eh q => match y with
  | .str z => (match x with
    | .str a => q (.bl (neg ^^ !(Builtin.Str.occurrences z a 0 z.length 1).isEmpty)) eh
    | _ => False)
  | y => (∃ ys ds d, seqE eh y = some ys ∧ ys.length = ds.length ∧ (∀ (i : Nat) z e, ys[i]? = some z → ds[i]? = some e → Dat eh z e) ∧ Dat eh x d ∧ PyData.plainAll ds = true ∧ d.plain = true ∧ d.depth ≤ 60 ∧
      q (.bl (neg ^^ ds.any fun e => PyData.eqv e d)) eh) ∨
    (∃ kvs k, dctE eh y = some kvs ∧ keyE x = some k ∧ q (.bl (neg ^^ (getK kvs k).isSome)) eh)
theorem lookup_valV {K mg Hd} {eh : Eh} {H : Hp} {k : Key} : ∀ {kvs : List (Key × EV)} {us : List (Key × V)}, RpK K mg Hd eh H kvs us → (∀ x, getK kvs k = some x → ∃ v, valV us k = some v ∧ Rp K mg Hd eh H x v) ∧ (getK kvs k = none → valV us k = none)
  | [], _, h => by cases h; exact ⟨fun _ e => by simp [getK] at e, fun _ => rfl⟩
  | (k', y) :: kvs, _, ⟨v, r, e, p, t⟩ => by
    subst e
    have ih := lookup_valV (k := k) t
    by_cases hk : k' = k
    · subst hk
      refine ⟨fun x e => ?_, fun e => ?_⟩
      · simp [getK] at e; subst e; exact ⟨v, by simp [valV], p⟩
      · simp [getK] at e
    · have e1 : getK ((k', y) :: kvs) k = getK kvs k := by simp [getK, hk]
      have e2 : valV ((k', v) :: r) k = valV r k := by simp [valV, List.find?_cons, hk]
      rw [e1, e2]; exact ih
theorem dget_rd {H : Hp} {a : Addr} {kvs : List (Key × V)} {k : Key} (e : Rd H a (.dK kvs)) : DGet H a (kV k) (valV kvs k) := .inl ⟨kvs, k, e, rfl, rfl⟩
theorem lookup_some {K mg Hd} {eh : Eh} {H : Hp} {k : Key} {kvs : List (Key × EV)} {us : List (Key × V)} (r : RpK K mg Hd eh H kvs us) : (valV us k).isSome = (getK kvs k).isSome := by
  have := lookup_valV (k := k) r
  cases e : getK kvs k with
  | none => rw [this.2 e]; rfl
  | some x => obtain ⟨v, h, _⟩ := this.1 x e; rw [h]; rfl
theorem op_in_any {k : Nat} (hr : RoomG k X.A) : OpR X (compareOp .In) (U2 X.K X.mw (cIn false)) := by
  have hu := hr.units
  intro pins s σ H v u a b Q I r1 r2 ⟨Hd, eh, x, y, q, R, rx, ry, m, k⟩
  unfold cIn at m
  split at m
  · split at m
    · cases rx; cases ry
      exact op_in_str pins s σ H _ _ a b Q I r1 r2 ⟨_, _, rfl, rfl, k eh H _ _ .refl R (by simp [Rp]) m⟩
    · exact m.elim
  · rcases m with ⟨ys, ds, d, es, hl, hi, hd, pa, pd, hz, m⟩ | ⟨kvs, kk, es, ek, m⟩
    · obtain ⟨p, vs, rfl, hp, rp⟩ := seq_of R ry es
      cases r2
      obtain ⟨as, ra⟩ := hd.reads I R _ _ rx r1
      rcases hp with hp | hp
      · obtain ⟨its, rv, ⟨o, n, e1, e2, e3, e4⟩, _⟩ := I.list hp
        obtain ⟨bs, rb⟩ := reads_items I rp rv hl fun i x d e e' v u p q => (hi i x d e e').reads I R v u p q
        exact SeqAt.in_list_data (.list e1 e2 e4 (by simpa using rb)) ra pa pd (by omega) ⟨.bl _, H, I, rfl, k eh H (.bl _) (.bl _) .refl R (by simp [Rp]) m⟩
      · obtain ⟨its, rv, ⟨o, e1, e2, n, e3⟩, _⟩ := I.tuple hp
        obtain ⟨bs, rb⟩ := reads_items I rp rv hl fun i x d e e' v u p q => (hi i x d e e').reads I R v u p q
        exact SeqAt.in_tuple_data (.tuple e1 e2 e3 (by simpa using rb)) ra pa pd (by omega) ⟨.bl _, H, I, rfl, k eh H (.bl _) (.bl _) .refl R (by simp [Rp]) m⟩
    · obtain ⟨p, us, rfl, hp, rp⟩ := dct_of R ry es
      cases r2
      have ev := keyE_of rx ek
      subst ev
      refine d_in (by omega) I (dget_rd hp) r1 fun s' I' => ⟨.bl _, H, I', rfl, ?_⟩
      rw [lookup_some rp]
      exact k eh H (.bl _) (.bl _) .refl R (by simp [Rp]) m
theorem op_notin_any {k : Nat} (hr : RoomG k X.A) : OpR X (compareOp .NotIn) (U2 X.K X.mw (cIn true)) := by
  have hu := hr.units
  intro pins s σ H v u a b Q I r1 r2 ⟨Hd, eh, x, y, q, R, rx, ry, m, k⟩
  unfold cIn at m
  split at m
  · split at m
    · cases rx; cases ry
      exact op_notin_str pins s σ H _ _ a b Q I r1 r2 ⟨_, _, rfl, rfl, k eh H (.bl _) (.bl _) .refl R (by simp [Rp]) m⟩
    · exact m.elim
  · rcases m with ⟨ys, ds, d, es, hl, hi, hd, pa, pd, hz, m⟩ | ⟨kvs, kk, es, ek, m⟩
    · obtain ⟨p, vs, rfl, hp, rp⟩ := seq_of R ry es
      cases r2
      obtain ⟨as, ra⟩ := hd.reads I R _ _ rx r1
      rcases hp with hp | hp
      · obtain ⟨its, rv, ⟨o, n, e1, e2, e3, e4⟩, _⟩ := I.list hp
        obtain ⟨bs, rb⟩ := reads_items I rp rv hl fun i x d e e' v u p q => (hi i x d e e').reads I R v u p q
        exact SeqAt.notIn_list_data (.list e1 e2 e4 (by simpa using rb)) ra pa pd (by omega) ⟨.bl _, H, I, rfl, k eh H (.bl _) (.bl _) .refl R (by simp [Rp]) m⟩
      · obtain ⟨its, rv, ⟨o, e1, e2, n, e3⟩, _⟩ := I.tuple hp
        obtain ⟨bs, rb⟩ := reads_items I rp rv hl fun i x d e e' v u p q => (hi i x d e e').reads I R v u p q
        exact SeqAt.notIn_tuple_data (.tuple e1 e2 e3 (by simpa using rb)) ra pa pd (by omega) ⟨.bl _, H, I, rfl, k eh H (.bl _) (.bl _) .refl R (by simp [Rp]) m⟩
    · obtain ⟨p, us, rfl, hp, rp⟩ := dct_of R ry es
      cases r2
      have ev := keyE_of rx ek
      subst ev
      refine d_notIn (by omega) I (dget_rd hp) r1 fun s' I' => ⟨.bl _, H, I', rfl, ?_⟩
      rw [lookup_some rp]
      exact k eh H (.bl _) (.bl _) .refl R (by simp [Rp]) m

/-! ### subscripts, slices -/
def oIx : EO2 := fun x y eh q => match x with
  | .str z => (match y with
    | .int i => z.length ≤ sizeLine ∧ ∃ c, atI z.cps.toList i = some c ∧ q (.str ⟨#[c]⟩) eh
    | _ => False)
  | x => (∃ xs i z, seqE eh x = some xs ∧ y = .int i ∧ atI xs i = some z ∧ q z eh) ∨ (∃ kvs k z, dctE eh x = some kvs ∧ keyE y = some k ∧ getK kvs k = some z ∧ q z eh)
theorem atI_rp {K mg Hd} {eh : Eh} {H : Hp} {xs : List EV} {vs : List V} {i : Int} {z : EV} (r : RpL K mg Hd eh H xs vs) (h : atI xs i = some z) : ∃ w, atI vs i = some w ∧ Rp K mg Hd eh H z w := by
  unfold atI at h ⊢
  rw [← r.length]
  cases e : ixN xs.length i with
  | none => rw [e] at h; cases h
  | some j => rw [e] at h; exact r.get h
theorem ix_any {k : Nat} (hr : RoomG k X.A) : IxR X (U2 X.K X.mw oIx) := by
  have hu := hr.units
  intro value slice pins s σ H v u a b Q I r1 r2 ⟨Hd, eh, x, y, q, R, rx, ry, m, k⟩ hs
  unfold oIx at m
  split at m
  · split at m
    · cases rx; cases ry
      obtain ⟨hz, c, hc, m⟩ := m
      exact ix_str value slice pins s σ H _ _ a b Q I r1 r2 ⟨_, _, c, rfl, rfl, hz, hc, k eh H (.str _) (.str _) .refl R rfl m⟩ hs
    · exact m.elim
  · rcases m with ⟨xs, i, z, es, rfl, hz, m⟩ | ⟨kvs, kk, z, es, ek, hz, m⟩
    · obtain ⟨p, vs, rfl, hp, rp⟩ := seq_of R rx es
      cases ry
      obtain ⟨w, hw, rw'⟩ := atI_rp rp hz
      rcases hp with hp | hp
      · exact ix_list value slice pins s σ H _ _ a b Q I r1 r2 ⟨p, vs, i, w, rfl, rfl, hp, hw, k eh H _ _ .refl R rw' m⟩ hs
      · exact ix_tup value slice pins s σ H _ _ a b Q I r1 r2 ⟨p, vs, i, w, rfl, rfl, hp, hw, k eh H _ _ .refl R rw' m⟩ hs
    · obtain ⟨p, us, rfl, hp, rp⟩ := dct_of R rx es
      cases r1
      have ev := keyE_of ry ek
      subst ev
      obtain ⟨w, hw, rw'⟩ := (lookup_valV (k := kk) rp).1 z hz
      have g : DGet H p (kV kk) (some w) := by rw [← hw]; exact dget_rd hp
      have tI := dict_typeIs I g
      unfold subscriptTail
      refine wpAny_bind ?_
      rw [getitemInPython_of_ne tI.not_modules]
      refine wpAny_bind (wpAny_specialOf tI PySem.F.slot_dict_getitem.lookup ?_)
      have fin : wpAny (model X.prog X.w) X.A (subscripted slice false (.ref p) b) (fun r s₃ => wpAny (model X.prog X.w) X.A (letTemporaryGo value (.ref p) r >>= fun _ => pure r) (EP X pins σ Q) X.xe s₃) X.xe s := by
        rw [hs]
        exact wpAny_operating (d_getItem (by omega) I g r2 fun w' s' I' rw2 => wpAny_bind (wpAny_letTemporaryGo (wpAny_pure ⟨w, H, I', rw2, k eh H _ _ .refl R rw' m⟩)))
      first
        | exact wpAny_pure (wpAny_bind fin)
        | exact wpAny_bind (wpAny_pure (wpAny_bind fin))
        | exact wpAny_bind fin
end
end VM

/-! VM4: targets, what is walked, for, while, comprehensions, calls of defs, bodies of defs. -/
namespace VM
open PySem PySem.Spec PyProof.Rows L2

/-! ### targets -/
inductive Tg where
  | nm (i : Nat) | tp (ts : List Tg)
mutual
def asg : Tg → EV → Es → Option Es
  | .nm i, x, es => some (es.set i (some x))
  | .tp ts, .tup xs, es => asgL ts xs es
  | .tp _, _, _ => none
def asgL : List Tg → List EV → Es → Option Es
  | [], [], es => some es
  | t :: ts, x :: xs, es => (asg t x es).bind fun es' => asgL ts xs es'
  | _, _, _ => none
end
mutual
def slots : Tg → List Nat
  | .nm i => [i]
  | .tp ts => slotsL ts
def slotsL : List Tg → List Nat
  | [] => []
  | t :: ts => slots t ++ slotsL ts
end
section
variable (K : PySem.W.Frag) (mg : MW)
def UG (t : Tg) : TG := fun v σ H Q => ∃ Hd es eh x es', Rl K mg Hd eh H es σ ∧ Rp K mg Hd eh H x v ∧ asg t x es = some es' ∧
  ∀ σ', Rl K mg Hd eh H es' σ' → σ'.length = σ.length → (∀ i, i ∉ slots t → σ'[i]? = σ[i]?) → Q σ' H
def UGs (ts : List Tg) : TGs := fun vs σ H Q => ∃ Hd es eh xs es', Rl K mg Hd eh H es σ ∧ RpL K mg Hd eh H xs vs ∧ asgL ts xs es = some es' ∧
  ∀ σ', Rl K mg Hd eh H es' σ' → σ'.length = σ.length → (∀ i, i ∉ slotsL ts → σ'[i]? = σ[i]?) → Q σ' H
end
theorem asgL_length : ∀ {ts : List Tg} {xs : List EV} {es es' : Es}, asgL ts xs es = some es' → ts.length = xs.length
  | [], [], _, _, _ => rfl
  | t :: ts, x :: xs, es, es', h => by
    simp only [asgL, Option.bind_eq_some_iff] at h
    obtain ⟨_, _, h⟩ := h
    simp [asgL_length h]
  | [], _ :: _, _, _, h => by simp [asgL] at h
  | _ :: _, [], _, _, h => by simp [asgL] at h
section
variable {X : Cx} {pos : Pos}
theorem PG.imp {e : Expr} {t t' : TG} (h : PG X e t) (i : ∀ v σ H Q, t' v σ H Q → t v σ H Q) : PG X e t' := ⟨fun pins s σ H v u Q I r w => h.run pins s σ H v u Q I r (i v σ H Q w)⟩
theorem PGs.imp {e : List Expr} {t t' : TGs} (h : PGs X e t) (i : ∀ v σ H Q, t' v σ H Q → t v σ H Q) : PGs X e t' := ⟨fun pins s σ H v u Q I r w => h.run pins s σ H v u Q I r (i v σ H Q w)⟩
theorem rg_nm {i : Nat} {x : Str} (hN : X.N.Nodup) (hi : X.N[i]? = some x := by rfl) (hx : Loc X.env.scope x := by first | exact Or.inl rfl | exact Or.inr rfl) (hf : X.fn x = true ∨ X.env.scope.names.lookup x = some .local := by first | exact .inl rfl | exact .inr rfl) : PG X (.Name x pos) (UG X.K X.mw (.nm i)) :=
  PG.imp (pg_name hN hi hx hf) fun v σ H Q ⟨Hd, es, eh, x, es', R, r, e, k⟩ => by
    cases e
    exact k _ (R.set r) (by simp) fun j hj => List.getElem?_set_ne fun z => hj (by simp [slots, z])
theorem rgs_nil : PGs X [] (UGs X.K X.mw []) := PGs.imp pgs_nil fun v σ H Q ⟨Hd, es, eh, xs, es', R, r, e, k⟩ => by
  have hl := asgL_length e
  cases xs with
  | cons _ _ => simp at hl
  | nil => cases r; cases e; exact ⟨rfl, k σ R rfl fun _ _ => rfl⟩
theorem rgs_cons {e : Expr} {es : List Expr} {t : Tg} {ts : List Tg} (h1 : PG X e (UG X.K X.mw t)) (h2 : PGs X es (UGs X.K X.mw ts))
    (hs : (assignEach (e :: es) X.env).map (·.2) = assign e X.env :: (assignEach es X.env).map (·.2) := by rfl) : PGs X (e :: es) (UGs X.K X.mw (t :: ts)) :=
  PGs.imp (pgs_cons h1 h2 hs) fun v σ H Q ⟨Hd, es, eh, xs, es', R, r, e, k⟩ => by
    cases xs with
    | nil => simp [asgL] at e
    | cons x xs =>
      obtain ⟨v, vr, rfl, rx, rr⟩ := r
      simp only [asgL, Option.bind_eq_some_iff] at e
      obtain ⟨es1, e1, e2⟩ := e
      refine ⟨v, vr, rfl, Hd, es, eh, x, es1, R, rx, e1, fun σ1 R1 l1 s1 => ⟨Hd, es1, eh, xs, es', R1, rr, e2, fun σ2 R2 l2 s2 => k σ2 R2 (l2.trans l1) fun i hi => ?_⟩⟩
      have hi' : i ∉ slots t ∧ i ∉ slotsL ts := by simpa [slotsL] using hi
      exact (s2 i hi'.2).trans (s1 i hi'.1)
theorem rg_tp {es : List Expr} {kk : Nat} {ts : List Tg} (hc : X.calm = true) (h : PGs X es (UGs X.K X.mw ts)) (hn : (assignEach es X.env).length = ts.length := by rfl)
    (hst : (assignEach es X.env).findIdx? (·.1) = none := by rfl) : PG X (.Tuple es kk pos) (UG X.K X.mw (.tp ts)) :=
  PG.imp (pg_tup hc h hn hst) fun v σ H Q ⟨Hd, es, eh, x, es', R, r, e, k⟩ => by
    cases x with
    | tup xs =>
      obtain ⟨a, vs, rfl, ht, r⟩ := r
      exact ⟨a, vs, rfl, ht, by rw [← r.length, asgL_length e], Hd, es, eh, xs, es', R, r, e, k⟩
    | _ => simp [asg] at e
end
/-- target = value -/
def sAsg (t : Tg) (m : ME) : MS := fun xc d es eh => m xc es eh fun x eh1 => ∃ es', asg t x es = some es' ∧ d.nx es' eh1
theorem rs_asg {X : Cx} {E : XK} {tg e : Expr} {pos : Pos} {ma : ME} {t : Tg} (he : PE X e (U X.K X.mw E ma)) (hg : PG X tg (UG X.K X.mw t)) (hs : swapsWithSole [tg] e pos.line X.env = pure false := by rfl) (hw : swappedStores [tg] e X.env = pure none := by rfl)
    (h1 : (assignEach [tg] X.env).map (·.2) = [assign tg X.env] := by rfl) : PS X (.Assign [tg] e pos) (US X.K X.mw E (sAsg t ma)) :=
  PS.imp (ps_asg he hg hs hw h1) fun D σ H ⟨Hd, es, eh, xc, d, R, xo, m, k1, k2, k3, k4⟩ => ⟨Hd, es, eh, xc, _, R, xo, m, fun eh1 H1 x v s1 R1 r1 ⟨es', e, m1⟩ =>
    ⟨Hd, es, eh1, x, es', R.step s1 R1, r1, e, fun σ' R' _ _ => k1 es' eh1 σ' H1 s1 R' m1⟩⟩

/-! ### what is walked -/
abbrev MI := XC → Es → Eh → (List EV → (Eh → Prop) → Eh → Prop) → Prop
structure JOk (K : PySem.W.Frag) (mg : MW) (Hd : Addr → Prop) (eh0 : Eh) (H0 : Hp) (J : It) (xs : List EV) (ok : Eh → Prop) : Prop where
  stop : ∀ i Hd' eh H, (∀ a, Hd' a → Hd a ∨ H0 a = none) → StepW Hd' eh0 H0 eh H → Rh K mg Hd' eh H → ok eh → xs.length ≤ i → J.stop i H
  go : ∀ i Hd' eh H, (∀ a, Hd' a → Hd a ∨ H0 a = none) → StepW Hd' eh0 H0 eh H → Rh K mg Hd' eh H → ok eh → i < xs.length → J.go i H
  yld : ∀ i Hd' eh H v H', (∀ a, Hd' a → Hd a ∨ H0 a = none) → StepW Hd' eh0 H0 eh H → Rh K mg Hd' eh H → ok eh → i < xs.length → J.yld i H v H' → ∃ x, xs[i]? = some x ∧ Step eh H eh H' ∧ Rh K mg Hd' eh H' ∧ Rp K mg Hd' eh H' x v ∧ (∀ a o, H a = some o → H' a = some o)
def UI (K : PySem.W.Frag) (mg : MW) (E : XK) (m : MI) : TI := fun σ H R => ∃ Hd es eh xc q, Rl K mg Hd eh H es σ ∧ XOk K mg E Hd eh H xc ∧ m xc es eh q ∧
  ∀ eh' H' xs ok J, Step eh H eh' H' → Rh K mg Hd eh' H' → JOk K mg Hd eh' H' J xs ok → q xs ok eh' → R J H'
theorem PI.imp {X : Cx} {tg e : Expr} {t t' : TI} (h : PI X tg e t) (i : ∀ σ H Q, t' σ H Q → t σ H Q) : PI X tg e t' := ⟨fun pins s σ H Q I w => h.run pins s σ H Q I (i σ H Q w)⟩
/-- what a value is walked by: its items, what must stay -/
def walkE (eh : Eh) : EV → Option (List EV × (Eh → Prop))
  | .tup xs => some (xs, fun _ => True)
  | .lst xs => some (xs, fun _ => True)
  | .scr ns => some (ns.map .int, fun _ => True)
  | .str x => some (x.cps.toList.map fun c => .str ⟨#[c]⟩, fun _ => True)
  | .dct kvs => some (kvs.map fun p => (match p.1 with | .inl i => .int i | .inr s => .str s), fun _ => True)
  | .ref a => match eh a with | some (.lst xs) => some (xs, fun h => h a = some (.lst xs)) | _ => none
  | _ => none
def iAny (m : ME) : MI := fun xc es eh q => m xc es eh fun x eh1 => ∃ xs ok, walkE eh1 x = some (xs, ok) ∧ q xs ok eh1
def tAnyI (K : PySem.W.Frag) (t : TE) : TI := fun σ H R => t σ H fun x H1 => (∃ a, x = .ref a ∧ (∃ xs, SqL K H1 a xs) ∧ R (Itl K a) H1) ∨ (∃ a, x = .ref a ∧ (∃ xs, SqT K H1 a xs) ∧ R (Itt K a) H1) ∨
  (∃ z, x = .str z ∧ R (Its z) H1) ∨ (∃ d o kvs, x = .ref d ∧ H1 d = some (.frz o (.dK kvs)) ∧ R (Itk d o kvs) H1)
theorem pi_any {X : Cx} {tg l : Expr} {tl : TE} (hl : PE X l tl) : PI X tg l (tAnyI X.K tl) := by
  refine ⟨fun pins s σ H R I h => ?_⟩
  refine thn (hl.run pins s σ H _ I h) fun v s1 ⟨x, H1, I1, r1, q1⟩ => ?_
  rcases q1 with ⟨a, rfl, ⟨xs, hq⟩, q⟩ | ⟨a, rfl, ⟨xs, hq⟩, q⟩ | ⟨z, rfl, q⟩ | ⟨d, o, kvs, rfl, hd, q⟩
  · cases r1
    obtain ⟨its, rv, p, hz⟩ := I1.list hq
    exact wpAny_pyIter_list p.isList (pi_one (tk := s1.toks) I1 _ (turn_list a _) ⟨_, Heap.get?_push_size _ rfl, rfl, rfl⟩ q)
  · cases r1
    obtain ⟨its, rv, p, hz⟩ := I1.tuple hq
    exact wpAny_pyIter_tuple (show s1.heap.IsTuple a its.toArray from p) (pi_one (tk := s1.toks) I1 _ (turn_tuple a _) ⟨_, Heap.get?_push_size _ rfl, rfl, rfl⟩ q)
  · obtain ⟨t, rfl⟩ := r1
    cases ha : z.cps.all (· < 128)
    · exact wpAny_pyIter_wide ha (pi_one (tk := s1.toks) I1 _ (turn_str _ z t "str_iterator" (.inr rfl)) ⟨_, Heap.get?_push_size _ rfl, rfl, rfl⟩ q)
    · exact wpAny_pyIter_ascii ha (pi_one (tk := s1.toks) I1 _ (turn_str _ z t "str_ascii_iterator" (.inl rfl)) ⟨_, Heap.get?_push_size _ rfl, rfl, rfl⟩ q)
  · cases r1
    obtain ⟨hs, hgd, hx, es, ep, vs, hdt, hsz, kv, hm⟩ := I1.frzK hd
    refine iter_keys hs hgd hx hdt (pi_one (tk := s1.toks) I1 _ (turn_keys _ hdt) ⟨_, Heap.get?_push_size _ rfl, rfl, ?_⟩ q)
    rw [hsz] <;> rfl
section
variable {K : PySem.W.Frag} {mg : MW} {Hd : Addr → Prop} {eh0 : Eh} {H0 : Hp}
/-- how a source is read through the walk -/
def Src (K : PySem.W.Frag) (mg : MW) (Hd : Addr → Prop) (eh0 : Eh) (H0 : Hp) (xs : List EV) (ok : Eh → Prop) (P : Hp → List V → Prop) : Prop :=
  ∀ Hd' eh H, (∀ a, Hd' a → Hd a ∨ H0 a = none) → StepW Hd' eh0 H0 eh H → Rh K mg Hd' eh H → ok eh → ∃ vs, P H vs ∧ RpL K mg Hd' eh H xs vs
theorem jok_list {a : Addr} {xs : List EV} {ok : Eh → Prop} (k : Src K mg Hd eh0 H0 xs ok (fun H vs => SqL K H a vs)) : JOk K mg Hd eh0 H0 (Itl K a) xs ok where
  stop := fun i Hd' eh H hh s R o hi => by
    obtain ⟨vs, q, r⟩ := k Hd' eh H hh s R o
    exact ⟨vs, q, by rw [← r.length]; exact hi⟩
  go := fun i Hd' eh H hh s R o hi => by
    obtain ⟨vs, q, r⟩ := k Hd' eh H hh s R o
    obtain ⟨v, hv, _⟩ := r.get (List.getElem?_eq_getElem hi)
    exact ⟨vs, v, q, hv⟩
  yld := fun i Hd' eh H v H' hh s R o hi ⟨e, y⟩ => by
    subst e
    obtain ⟨vs, q, r⟩ := k Hd' eh H' hh s R o
    obtain ⟨x, hx, rp⟩ := r.get' (y vs q)
    exact ⟨x, hx, .refl, R, rp, fun _ _ z => z⟩
theorem jok_tup {a : Addr} {xs : List EV} {ok : Eh → Prop} (k : Src K mg Hd eh0 H0 xs ok (fun H vs => SqT K H a vs)) : JOk K mg Hd eh0 H0 (Itt K a) xs ok where
  stop := fun i Hd' eh H hh s R o hi => by
    obtain ⟨vs, q, r⟩ := k Hd' eh H hh s R o
    exact ⟨vs, q, by rw [← r.length]; exact hi⟩
  go := fun i Hd' eh H hh s R o hi => by
    obtain ⟨vs, q, r⟩ := k Hd' eh H hh s R o
    obtain ⟨v, hv, _⟩ := r.get (List.getElem?_eq_getElem hi)
    exact ⟨vs, v, q, hv⟩
  yld := fun i Hd' eh H v H' hh s R o hi ⟨e, y⟩ => by
    subst e
    obtain ⟨vs, q, r⟩ := k Hd' eh H' hh s R o
    obtain ⟨x, hx, rp⟩ := r.get' (y vs q)
    exact ⟨x, hx, .refl, R, rp, fun _ _ z => z⟩
theorem jok_rng {lo : Int} {n : Nat} : JOk K mg Hd eh0 H0 (Itr lo n) ((List.range n).map fun (i : Nat) => .int (lo + (i : Int))) (fun _ => True) where
  stop := fun i Hd' eh H hh s R o hi => by
    show n ≤ i
    simpa using hi
  go := fun i Hd' eh H hh s R o hi => by
    show i < n
    simpa using hi
  yld := fun i Hd' eh H v H' hh s R o hi ⟨e, y⟩ => by
    subst e; subst y
    exact ⟨.int (lo + i), by have h : i < n := by simpa using hi
                             simp [List.getElem?_map, List.getElem?_range h], .refl, R, rfl, fun _ _ z => z⟩
theorem jok_str {z : Str} : JOk K mg Hd eh0 H0 (Its z) (z.cps.toList.map fun c => .str ⟨#[c]⟩) (fun _ => True) where
  stop := fun i Hd' eh H hh s R o hi => by
    show z.cps.size ≤ i
    simpa using hi
  go := fun i Hd' eh H hh s R o hi => by
    show i < z.cps.size
    simpa using hi
  yld := fun i Hd' eh H v H' hh s R o hi ⟨e, c, y, w⟩ => by
    subst e; subst w
    exact ⟨.str ⟨#[c]⟩, by simp [y], .refl, R, rfl, fun _ _ z => z⟩
def keyV : Key → EV
  | .inl i => .int i
  | .inr s => .str s
theorem keyV_rp {eh : Eh} {H : Hp} (k : Key) : Rp K mg Hd eh H (keyV k) (kV k) := by cases k <;> exact rfl
theorem jok_keys {d : Addr} {o : Obj} {kvs : List (Key × EV)} {us : List (Key × V)} (e : H0 d = some (.frz o (.dK us))) (r : RpK K mg Hd eh0 H0 kvs us) : JOk K mg Hd eh0 H0 (Itk d o us) (kvs.map fun p => keyV p.1) (fun _ => True) where
  stop := fun i Hd' eh H hh s R o hi => ⟨s.frz _ _ _ e, by rw [← r.length]; simpa using hi⟩
  go := fun i Hd' eh H hh s R o hi => ⟨s.frz _ _ _ e, by rw [← r.length]; simpa using hi⟩
  yld := fun i Hd' eh H v H' hh s R o hi ⟨e, k, w, y, z⟩ => by
    subst e; subst z
    obtain ⟨x, hx, _⟩ := r.get' y
    exact ⟨keyV k, by simp [hx], .refl, R, keyV_rp k, fun _ _ z => z⟩
theorem jok_items {d : Addr} {o : Obj} {kvs : List (Key × EV)} {us : List (Key × V)} (e : H0 d = some (.frz o (.dK us))) (r : RpK K mg Hd eh0 H0 kvs us) : JOk K mg Hd eh0 H0 (Iti d o us) (kvs.map fun p => .tup [keyV p.1, p.2]) (fun _ => True) where
  stop := fun i Hd' eh H hh s R o hi => ⟨s.frz _ _ _ e, by rw [← r.length]; simpa using hi⟩
  go := fun i Hd' eh H hh s R o hi => ⟨s.frz _ _ _ e, by rw [← r.length]; simpa using hi⟩
  yld := fun i Hd' eh H v H' hh s R o hi ⟨T, k, w, y, z, n, e⟩ => by
    subst e; subst z
    obtain ⟨x, hx, rx⟩ := r.get' y
    exact ⟨.tup [keyV k, x], by simp [hx], .newF n, R.newF n, ⟨T, _, rfl, .inl (.inl upd_same), .cons (keyV_rp k) (.one (((rx.hid hh).stepW s).step (.newF n)))⟩, fun a o q => by rw [upd_ne (ne_of_none q n)]; exact q⟩
theorem jok_enum {a : Addr} {xs : List EV} {ok : Eh → Prop} (k : Src K mg Hd eh0 H0 xs ok (fun H vs => SqL K H a vs)) : JOk K mg Hd eh0 H0 (Ite K a) (xs.mapIdx fun i x => .tup [.int (i : Nat), x]) ok where
  stop := fun i Hd' eh H hh s R o hi => by
    obtain ⟨vs, q, r⟩ := k Hd' eh H hh s R o
    exact ⟨vs, q, by rw [← r.length]; simpa using hi⟩
  go := fun i Hd' eh H hh s R o hi => by
    obtain ⟨vs, q, r⟩ := k Hd' eh H hh s R o
    obtain ⟨v, hv, _⟩ := r.get (List.getElem?_eq_getElem (by simpa using hi))
    exact ⟨vs, v, q, hv⟩
  yld := fun i Hd' eh H v H' hh s R o hi ⟨T, w, e, n, e', y⟩ => by
    subst e; subst e'
    obtain ⟨vs, q, r⟩ := k Hd' eh H hh s R o
    obtain ⟨x, hx, rp⟩ := r.get' (y vs q)
    exact ⟨.tup [.int (i : Nat), x], by simp [hx], .newF n, R.newF n, ⟨T, _, rfl, .inl (.inl upd_same), .cons rfl (.one (rp.step (.newF n)))⟩, fun a o q => by rw [upd_ne (ne_of_none q n)]; exact q⟩
theorem zip_get {α β : Type} {xs : List α} {ys : List β} {i : Nat} {x : α} {y : β} (h1 : xs[i]? = some x) (h2 : ys[i]? = some y) : (xs.zip ys)[i]? = some (x, y) := by
  rw [List.getElem?_zip_eq_some]; exact ⟨h1, h2⟩
theorem jok_zip {a b : Addr} {xs ys : List EV} {ok ok' : Eh → Prop} (k : Src K mg Hd eh0 H0 xs ok (fun H vs => SqL K H a vs)) (k' : Src K mg Hd eh0 H0 ys ok' (fun H vs => SqL K H b vs)) : JOk K mg Hd eh0 H0 (Itz K a b) ((xs.zip ys).map fun p => .tup [p.1, p.2]) (fun h => ok h ∧ ok' h) where
  stop := fun i Hd' eh H hh s R o hi => by
    obtain ⟨vs, q, r⟩ := k Hd' eh H hh s R o.1
    obtain ⟨us, q', r'⟩ := k' Hd' eh H hh s R o.2
    refine ⟨vs, us, q, q', ?_⟩
    rw [← r.length, ← r'.length]
    simp at hi; omega
  go := fun i Hd' eh H hh s R o hi => by
    obtain ⟨vs, q, r⟩ := k Hd' eh H hh s R o.1
    obtain ⟨us, q', r'⟩ := k' Hd' eh H hh s R o.2
    have hi' : i < xs.length ∧ i < ys.length := by simp at hi; omega
    obtain ⟨v, hv, _⟩ := r.get (List.getElem?_eq_getElem hi'.1)
    obtain ⟨u, hu, _⟩ := r'.get (List.getElem?_eq_getElem hi'.2)
    exact ⟨vs, us, v, u, q, q', hv, hu⟩
  yld := fun i Hd' eh H v H' hh s R o hi ⟨T, x, y, e, n, e', hx, hy⟩ => by
    subst e; subst e'
    obtain ⟨vs, q, r⟩ := k Hd' eh H hh s R o.1
    obtain ⟨us, q', r'⟩ := k' Hd' eh H hh s R o.2
    obtain ⟨x', hx', rx⟩ := r.get' (hx vs q)
    obtain ⟨y', hy', ry⟩ := r'.get' (hy us q')
    exact ⟨.tup [x', y'], by rw [List.getElem?_map, zip_get hx' hy']; rfl, .newF n, R.newF n, ⟨T, _, rfl, .inl (.inl upd_same), .cons (rx.step (.newF n)) (.one (ry.step (.newF n)))⟩, fun a o q => by rw [upd_ne (ne_of_none q n)]; exact q⟩
theorem jok_zipT {a b : Addr} {xs ys : List EV} {ok ok' : Eh → Prop} (k : Src K mg Hd eh0 H0 xs ok (fun H vs => SqT K H a vs)) (k' : Src K mg Hd eh0 H0 ys ok' (fun H vs => SqT K H b vs)) : JOk K mg Hd eh0 H0 (RZ.ItzT K a b) ((xs.zip ys).map fun p => .tup [p.1, p.2]) (fun h => ok h ∧ ok' h) where
  stop := fun i Hd' eh H hh s R o hi => by
    obtain ⟨vs, q, r⟩ := k Hd' eh H hh s R o.1
    obtain ⟨us, q', r'⟩ := k' Hd' eh H hh s R o.2
    refine ⟨vs, us, q, q', ?_⟩
    rw [← r.length, ← r'.length]
    simp at hi; omega
  go := fun i Hd' eh H hh s R o hi => by
    obtain ⟨vs, q, r⟩ := k Hd' eh H hh s R o.1
    obtain ⟨us, q', r'⟩ := k' Hd' eh H hh s R o.2
    have hi' : i < xs.length ∧ i < ys.length := by simp at hi; omega
    obtain ⟨v, hv, _⟩ := r.get (List.getElem?_eq_getElem hi'.1)
    obtain ⟨u, hu, _⟩ := r'.get (List.getElem?_eq_getElem hi'.2)
    exact ⟨vs, us, v, u, q, q', hv, hu⟩
  yld := fun i Hd' eh H v H' hh s R o hi ⟨T, x, y, e, n, e', hx, hy⟩ => by
    subst e; subst e'
    obtain ⟨vs, q, r⟩ := k Hd' eh H hh s R o.1
    obtain ⟨us, q', r'⟩ := k' Hd' eh H hh s R o.2
    obtain ⟨x', hx', rx⟩ := r.get' (hx vs q)
    obtain ⟨y', hy', ry⟩ := r'.get' (hy us q')
    exact ⟨.tup [x', y'], by rw [List.getElem?_map, zip_get hx' hy']; rfl, .newF n, R.newF n, ⟨T, _, rfl, .inl (.inl upd_same), .cons (rx.step (.newF n)) (.one (ry.step (.newF n)))⟩, fun a o q => by rw [upd_ne (ne_of_none q n)]; exact q⟩
/-- a list's source, frozen or explicit -/
def srcL (eh : Eh) : EV → Option (List EV × (Eh → Prop))
  | .lst xs => some (xs, fun _ => True)
  | .scr ns => some (ns.map .int, fun _ => True)
  | .ref a => match eh a with | some (.lst xs) => some (xs, fun h => h a = some (.lst xs)) | _ => none
  | _ => none
theorem srcL_of (R : Rh K mg Hd eh0 H0) {x : EV} {v : V} {xs : List EV} {ok : Eh → Prop} (r : Rp K mg Hd eh0 H0 x v) (e : srcL eh0 x = some (xs, ok)) :
    ∃ a, v = .ref a ∧ (∃ vs, SqL K H0 a vs) ∧ ok eh0 ∧ Src K mg Hd eh0 H0 xs ok (fun H vs => SqL K H a vs) := by
  cases x with
  | lst ys =>
    cases e
    obtain ⟨a, vs, rfl, h, n, t⟩ := r
    exact ⟨a, rfl, ⟨vs, .inl (.inl h)⟩, trivial, fun Hd' eh H hh s R' _ => ⟨vs, .inl (.inl (s.st _ _ h n.1 (fun _ z => nomatch z) (hid_ok (eh := eh0) hh h n.2)).1), (t.hid hh).stepW s⟩⟩
  | scr ns =>
    cases e
    obtain ⟨a, rfl, h⟩ := r
    exact ⟨a, rfl, ⟨_, h.sq⟩, trivial, fun Hd' eh H hh s R' _ => by
      obtain ⟨b, e, h'⟩ := Rp.stepW s (K := K) (x := .scr ns) (v := .ref a) (mg := mg) (Rp.hid hh (mg := mg) (x := .scr ns) (v := .ref a) ⟨a, rfl, h⟩)
      cases e
      exact ⟨_, h'.sq, RpL.of_ints ns⟩⟩
  | ref a =>
    cases r
    simp only [srcL] at e
    cases h : eh0 a with
    | none => rw [h] at e; cases e
    | some o =>
      rw [h] at e
      cases o with
      | lst ys =>
        cases e
        obtain ⟨vs, hv, t⟩ := R.ob a _ h
        refine ⟨a, rfl, ⟨vs, .inl (.inl hv)⟩, h, fun Hd' eh H hh s R' o => ?_⟩
        obtain ⟨vs, hv, t⟩ := R'.ob a _ o
        exact ⟨vs, .inl (.inl hv), t⟩
      | _ => cases e
  | _ => cases e
def srcT : EV → Option (List EV)
  | .tup xs => some xs
  | _ => none
theorem srcT_of {x : EV} {v : V} {xs : List EV} (r : Rp K mg Hd eh0 H0 x v) (e : srcT x = some xs) :
    ∃ a, v = .ref a ∧ (∃ vs, SqT K H0 a vs) ∧ Src K mg Hd eh0 H0 xs (fun _ => True) (fun H vs => SqT K H a vs) := by
  cases x with
  | tup ys =>
    cases e
    obtain ⟨a, vs, rfl, h, t⟩ := r
    exact ⟨a, rfl, ⟨vs, h⟩, fun Hd' eh H hh s R' _ => ⟨vs, SqT.stepW s h, (t.hid hh).stepW s⟩⟩
  | _ => cases e
end
section
variable {X : Cx} {E : XK} {tg e e2 : Expr} {ma mb : ME} {pos p : Pos}
theorem ri_any (h : PE X e (U X.K X.mw E ma)) : PI X tg e (UI X.K X.mw E (iAny ma)) :=
  PI.imp (pi_any h) fun σ H R ⟨Hd, es, eh, xc, q, Rl, xo, m, k⟩ => ⟨Hd, es, eh, xc, _, Rl, xo, m, fun eh1 H1 x v s1 R1 r1 ⟨xs, ok, ew, m1⟩ => by
    cases x with
    | tup ys =>
      cases ew
      obtain ⟨a, rfl, vs, src⟩ := srcT_of r1 rfl
      exact .inr (.inl ⟨a, rfl, vs, k eh1 H1 _ _ _ s1 R1 (jok_tup src) m1⟩)
    | lst ys =>
      cases ew
      obtain ⟨a, rfl, vs, o, src⟩ := srcL_of R1 r1 rfl
      exact .inl ⟨a, rfl, vs, k eh1 H1 _ _ _ s1 R1 (jok_list src) m1⟩
    | scr ns =>
      cases ew
      obtain ⟨a, rfl, vs, o, src⟩ := srcL_of R1 r1 rfl
      exact .inl ⟨a, rfl, vs, k eh1 H1 _ _ _ s1 R1 (jok_list src) m1⟩
    | str z =>
      cases ew
      cases r1
      exact .inr (.inr (.inl ⟨z, rfl, k eh1 H1 _ _ _ s1 R1 jok_str m1⟩))
    | dct kvs =>
      cases ew
      obtain ⟨a, o, us, rfl, h, t⟩ := r1
      exact .inr (.inr (.inr ⟨a, o, us, rfl, h, k eh1 H1 _ _ _ s1 R1 (jok_keys h t) m1⟩))
    | ref a =>
      simp only [walkE] at ew
      cases h : eh1 a with
      | none => rw [h] at ew; cases ew
      | some o =>
        rw [h] at ew
        cases o with
        | lst ys =>
          cases ew
          obtain ⟨b, rfl, vs, o, src⟩ := srcL_of R1 r1 (xs := xs) (ok := fun h => h a = some (.lst xs)) (by simp only [srcL, h])
          exact .inl ⟨b, rfl, vs, k eh1 H1 _ _ _ s1 R1 (jok_list src) m1⟩
        | _ => cases ew
    | _ => cases ew⟩
def iRange1 (t : MA) : MI := fun xc es eh q => t xc es eh fun xs eh1 => match xs with
  | [.int j] => (-(2 ^ 62) ≤ j ∧ j < 2 ^ 62) ∧ q ((List.range j.toNat).map fun (i : Nat) => .int (i : Int)) (fun _ => True) eh1
  | _ => False
theorem ri_range1 {mt : MA} (hg : Gl X "range") (hm : X.mg "range" = none) (ha : PA X [e] (UA X.K X.mw E mt)) (hs : starEach [e] X.env = [(false, eval e X.env)] := by rfl) : PI X tg (.Call (.Name "range" p) [e] [] pos) (UI X.K X.mw E (iRange1 mt)) :=
  PI.imp (pi_range1 hg hm ha hs) fun σ H R ⟨Hd, es, eh, xc, q, Rl, xo, m, k⟩ => ⟨Hd, es, eh, xc, _, Rl, xo, m, fun eh1 H1 xs vs s1 R1 r1 m1 => by
    split at m1
    · rename_i j
      obtain ⟨v, r, rfl, rv, rr⟩ := r1
      cases rv; cases rr
      refine ⟨j, rfl, m1.1.1, m1.1.2, k eh1 H1 _ _ _ s1 R1 jok_rng (by simpa using m1.2)⟩
    · exact m1.elim⟩
def iEnumM (t : MA) : MI := fun xc es eh q => t xc es eh fun xs eh1 => match xs with
  | [x] => ∃ ys ok, srcL eh1 x = some (ys, ok) ∧ q (ys.mapIdx fun i x => .tup [.int (i : Nat), x]) ok eh1
  | _ => False
theorem ri_enum {mt : MA} {elts : List Expr} {kk : Nat} {tpos : Pos} (hg : Gl X "enumerate") (hm : X.mg "enumerate" = none) (ha : PA X [e] (UA X.K X.mw E mt)) (hs : starEach [e] X.env = [(false, eval e X.env)] := by rfl) :
    PI X (.Tuple elts kk tpos) (.Call (.Name "enumerate" p) [e] [] pos) (UI X.K X.mw E (iEnumM mt)) :=
  PI.imp (pi_enum hg hm ha hs) fun σ H R ⟨Hd, es, eh, xc, q, Rl, xo, m, k⟩ => ⟨Hd, es, eh, xc, _, Rl, xo, m, fun eh1 H1 xs vs s1 R1 r1 m1 => by
    split at m1
    · obtain ⟨ys, ok, ey, m1⟩ := m1
      obtain ⟨v, r, rfl, rv, rr⟩ := r1
      cases rr
      obtain ⟨a, rfl, ⟨us, hu⟩, o, src⟩ := srcL_of R1 rv ey
      exact ⟨a, us, rfl, hu, k eh1 H1 _ _ _ s1 R1 (jok_enum src) m1⟩
    · exact m1.elim⟩
def iZipM (t : MA) : MI := fun xc es eh q => t xc es eh fun xs eh1 => match xs with
  | [x, y] => (∃ xs ys, srcT x = some xs ∧ srcT y = some ys ∧ q ((xs.zip ys).map fun p => .tup [p.1, p.2]) (fun _ => True) eh1) ∨
      ∃ xs ys ok ok', srcL eh1 x = some (xs, ok) ∧ srcL eh1 y = some (ys, ok') ∧ q ((xs.zip ys).map fun p => .tup [p.1, p.2]) (fun h => ok h ∧ ok' h) eh1
  | _ => False
theorem JOk.tt {K mg Hd eh0 H0 J xs} (h : JOk K mg Hd eh0 H0 J xs (fun _ => True ∧ True)) : JOk K mg Hd eh0 H0 J xs (fun _ => True) :=
  ⟨fun i Hd' eh H a b c _ => h.stop i Hd' eh H a b c ⟨trivial, trivial⟩, fun i Hd' eh H a b c _ => h.go i Hd' eh H a b c ⟨trivial, trivial⟩, fun i Hd' eh H v H' a b c _ => h.yld i Hd' eh H v H' a b c ⟨trivial, trivial⟩⟩
theorem ri_zip {mt : MA} {elts : List Expr} {kk : Nat} {tpos : Pos} (hg : Gl X "zip") (hm : X.mg "zip" = none) (ha : PA X [e, e2] (UA X.K X.mw E mt))
    (hs : starEach [e, e2] X.env = (false, eval e X.env) :: starEach [e2] X.env := by rfl) (hpl : (backTo pos (starEach [e2] X.env)).any (·.1) = false := by rfl) :
    PI X (.Tuple elts kk tpos) (.Call (.Name "zip" p) [e, e2] [] pos) (UI X.K X.mw E (iZipM mt)) :=
  PI.imp (RZ.pi_zipA hg hm ha hs hpl) fun σ H R ⟨Hd, es, eh, xc, q, Rl, xo, m, k⟩ => ⟨Hd, es, eh, xc, _, Rl, xo, m, fun eh1 H1 xs vs s1 R1 r1 m1 => by
    split at m1
    · obtain ⟨v, r, rfl, rv, v', r', rfl, rv', rr⟩ := r1
      cases rr
      rcases m1 with ⟨xs, ys, ex, ey, m1⟩ | ⟨xs, ys, ok, ok', ex, ey, m1⟩
      · obtain ⟨a, rfl, ⟨us, hu⟩, src⟩ := srcT_of rv ex
        obtain ⟨b, rfl, ⟨ws, hw⟩, src'⟩ := srcT_of rv' ey
        exact ⟨a, b, us, ws, rfl, .inr ⟨hu, hw, k eh1 H1 _ _ _ s1 R1 (jok_zipT src src').tt m1⟩⟩
      · obtain ⟨a, rfl, ⟨us, hu⟩, o, src⟩ := srcL_of R1 rv ex
        obtain ⟨b, rfl, ⟨ws, hw⟩, o', src'⟩ := srcL_of R1 rv' ey
        exact ⟨a, b, us, ws, rfl, .inl ⟨hu, hw, k eh1 H1 _ _ _ s1 R1 (jok_zip src src') m1⟩⟩
    · exact m1.elim⟩
def iItemsM (m : ME) : MI := fun xc es eh q => m xc es eh fun x eh1 => match x with
  | .dct kvs => q (kvs.map fun p => .tup [keyV p.1, p.2]) (fun _ => True) eh1
  | _ => False
theorem ri_items {elts : List Expr} {kk : Nat} {tpos apos cpos : Pos} (he : PE X e (U X.K X.mw E ma)) (hbase : attributeBase e "items" X.env (eval e X.env) = eval e X.env := by rfl) (hline : (apos.endLine == cpos.line) = true := by rfl) :
    PI X (.Tuple elts kk tpos) (.Call (.Attribute e "items" apos) [] [] cpos) (UI X.K X.mw E (iItemsM ma)) :=
  PI.imp (pi_items he hbase hline) fun σ H R ⟨Hd, es, eh, xc, q, Rl, xo, m, k⟩ => ⟨Hd, es, eh, xc, _, Rl, xo, m, fun eh1 H1 x v s1 R1 r1 m1 => by
    cases x with
    | dct kvs =>
      obtain ⟨a, o, us, rfl, h, t⟩ := r1
      exact ⟨a, o, us, rfl, h, k eh1 H1 _ _ _ s1 R1 (jok_items h t) m1⟩
    | _ => exact m1.elim⟩
end

/-! ### for, while -/
def forL (g : Tg) (b : MS) (ok : Eh → Prop) (xc : XC) (d : Dn) : List EV → Es → Eh → Prop
  | [], es, eh => ok eh ∧ d.nx es eh
  | x :: xs, es, eh => ok eh ∧ ∃ es', asg g x es = some es' ∧ b xc { d with nx := fun es1 eh1 => forL g b ok xc d xs es1 eh1, ct := fun es1 eh1 => forL g b ok xc d xs es1 eh1, bk := d.nx } es' eh
def sFor (mi : MI) (g : Tg) (b : MS) : MS := fun xc d es eh => mi xc es eh fun xs ok eh1 => forL g b ok xc d xs es eh1
def whileN (c : MT) (b : MS) (xc : XC) (d : Dn) : Nat → Es → Eh → Prop
  | 0, _, _ => False
  | n + 1, es, eh => c xc es eh fun t eh1 => match t with
    | true => b xc { d with nx := fun es1 eh1 => whileN c b xc d n es1 eh1, ct := fun es1 eh1 => whileN c b xc d n es1 eh1, bk := d.nx } es eh1
    | false => d.nx es eh1
def sWhile (c : MT) (b : MS) : MS := fun xc d es eh => ∃ n, whileN c b xc d n es eh
theorem drop_cons {α : Type} {xs : List α} {i : Nat} {x : α} {r : List α} (h : xs.drop i = x :: r) : xs[i]? = some x ∧ xs.drop (i + 1) = r ∧ i < xs.length := by
  have hl : i < xs.length := by
    rcases Nat.lt_or_ge i xs.length with z | z
    · exact z
    · rw [List.drop_eq_nil_of_le z] at h; cases h
  rw [List.drop_eq_getElem_cons hl] at h
  cases h
  exact ⟨List.getElem?_eq_getElem hl, rfl, hl⟩
section
variable {X : Cx} {E : XK} {tg iter c : Expr} {body : List Stmt} {mi : MI} {g : Tg} {ms : MS} {mt : MT} {pos : Pos}
theorem rs_for (hp : PassesOwn (model X.prog X.w) X.A X.env X.xe) (hc : X.calm = true) (hi : PI X tg iter (UI X.K X.mw E mi)) (hg : PG X tg (UG X.K X.mw g)) (hb : PSs X body (US X.K X.mw E ms))
    (hs : ∀ x, foldedSetIterable iter X.env x = pure x := by intro _; rfl) : PS X (.For tg iter body [] pos) (US X.K X.mw E (sFor mi g ms)) :=
  PS.imp (ps_for hp hc hi hg hb hs) fun D σ H ⟨Hd, es, eh, xc, d, R, xo, m, k1, k2, k3, k4⟩ => ⟨Hd, es, eh, xc, _, R, xo, m, fun ehA HA xs ok J sA RA jo mA => by
    refine ⟨fun i n σ H => ∃ es eh, i + n = xs.length ∧ Step ehA HA eh H ∧ Rl X.K X.mw Hd eh H es σ ∧ forL g ms ok xc d (xs.drop i) es eh, ⟨xs.length, es, ehA, by omega, .refl, R.step sA RA, mA⟩, ?_⟩
    rintro i n σ H ⟨es, eh, hn, s1, R1, f⟩
    cases hd : xs.drop i with
    | nil =>
      rw [hd] at f
      have : xs.length ≤ i := by simpa using hd
      exact .inl ⟨jo.stop i Hd eh H (fun _ z => .inl z) s1.w R1.obj f.1 this, k1 es eh σ H (sA.trans s1) R1 f.2⟩
    | cons x r =>
      rw [hd] at f
      obtain ⟨hx, hr, hl⟩ := drop_cons hd
      obtain ⟨o, es', ea, f⟩ := f
      refine .inr ⟨jo.go i Hd eh H (fun _ z => .inl z) s1.w R1.obj o hl, fun σ' H' => ∃ es eh, (i + 1) + (n - 1) = xs.length ∧ Step ehA HA eh H' ∧ Rl X.K X.mw Hd eh H' es σ' ∧ forL g ms ok xc d (xs.drop (i + 1)) es eh,
        fun σ' H' w => ⟨n - 1, by omega, w⟩, fun v H2 y => ?_⟩
      obtain ⟨x', hx', s2, R2, r2, _⟩ := jo.yld i Hd eh H v H2 (fun _ z => .inl z) s1.w R1.obj o hl y
      rw [hx] at hx'; cases hx'
      refine ⟨Hd, es, eh, x, es', R1.step s2 R2, r2, ea, fun σ3 R3 _ _ => ⟨Hd, es', eh, xc, _, R3, ((xo.step sA).step s1).step s2, f, ?_, ?_, ?_, ?_⟩⟩
      · intro es4 eh4 σ4 H4 s4 R4 f4
        exact ⟨es4, eh4, by omega, s1.trans (s2.trans s4), R4, by rw [hr]; exact f4⟩
      · exact fun eh4 H4 x v s4 R4 r4 => k2 eh4 H4 x v (sA.trans (s1.trans (s2.trans s4))) R4 r4
      · exact fun es4 eh4 σ4 H4 s4 R4 => k1 es4 eh4 σ4 H4 (sA.trans (s1.trans (s2.trans s4))) R4
      · intro es4 eh4 σ4 H4 s4 R4 f4
        exact ⟨es4, eh4, by omega, s1.trans (s2.trans s4), R4, by rw [hr]; exact f4⟩⟩
theorem rs_while (hp : PassesOwn (model X.prog X.w) X.A X.env X.xe) (hc : PT X c (UT X.K X.mw E mt)) (hb : PSs X body (US X.K X.mw E ms)) : PS X (.While c body [] pos) (US X.K X.mw E (sWhile mt ms)) :=
  PS.imp (ps_while hp hc hb) fun D σ H ⟨Hd, es, eh, xc, d, R, xo, ⟨n, m⟩, k1, k2, k3, k4⟩ => by
    refine ⟨fun n σ' H' => ∃ es eh', Step eh H eh' H' ∧ Rl X.K X.mw Hd eh' H' es σ' ∧ whileN mt ms xc d n es eh', ⟨n, es, eh, .refl, R, m⟩, ?_⟩
    rintro n σ1 H1 ⟨es1, eh1, s1, R1, w⟩
    cases n with
    | zero => exact w.elim
    | succ n =>
      refine ⟨Hd, es1, eh1, xc, _, R1, xo.step s1, w, fun eh2 H2 b s2 R2 w2 => ?_⟩
      cases b with
      | false => exact iteF (k1 es1 eh2 σ1 H2 (s1.trans s2) (R1.step s2 R2) w2)
      | true =>
        refine iteT ⟨fun σ' H' => ∃ es eh', Step eh H eh' H' ∧ Rl X.K X.mw Hd eh' H' es σ' ∧ whileN mt ms xc d n es eh', fun σ' H' w => ⟨n, Nat.lt_succ_self n, w⟩, Hd, es1, eh2, xc, _, R1.step s2 R2, (xo.step s1).step s2, w2, ?_, ?_, ?_, ?_⟩
        · exact fun es4 eh4 σ4 H4 s4 R4 f4 => ⟨es4, eh4, s1.trans (s2.trans s4), R4, f4⟩
        · exact fun eh4 H4 x v s4 R4 r4 => k2 eh4 H4 x v (s1.trans (s2.trans s4)) R4 r4
        · exact fun es4 eh4 σ4 H4 s4 R4 => k1 es4 eh4 σ4 H4 (s1.trans (s2.trans s4)) R4
        · exact fun es4 eh4 σ4 H4 s4 R4 f4 => ⟨es4, eh4, s1.trans (s2.trans s4), R4, f4⟩
end
end VM

/-! VMG: promises of defs that are called while no repr is under way (guards = some []): FnG in the place of the kit's FnOk, RoomG in the place of Room. -/
namespace VM
open PySem PySem.Spec PyProof.Rows L2
theorem Passes.at {CX : CXT} {X : Cx} {E : XK} (h : Passes CX X E) : ∀ σ, PassesAt CX X σ E := fun σ pins H s e s' => h pins σ H s e s'
structure FnG (P : Program) (w : World) (K : PySem.W.Frag) (mg : Str → Option Value) (B : Heap) (CX : CXT) (k : Nat) (f : Addr) (fd : FuncData) (ps : List Str) (sp : Sp) : Prop where
  num : ∀ xs H Q E, sp xs H Q E → xs.length = ps.length
  go : ∀ {A : Around} {fr : List Env} {s : Shared} {H : Hp} {ar : Args} {as : List Value} {xs : List V} {Q : VK} {E : XK}, RoomG k A → Env0 P w K mg B A fr s H → BindsTo s fd ar (ps.zip as) → Vals xs as → sp xs H Q E →
    codeAny (model P w) A (.call (.ref f) ar) (CR CX fr P w H s Q E) s
theorem FnG.mono {P w K mg B CX i k f fd ps sp} (F : FnG P w K mg B CX i f fd ps sp) (l : i ≤ k) : FnG P w K mg B CX k f fd ps sp := ⟨F.num, fun r => F.go (r.mono l)⟩
section
variable {P : Program} {w : World} {K : PySem.W.Frag} {mg : Str → Option Value} {B : Heap} {CX : CXT} {k : Nat} {f : Addr} {fd : FuncData} {N ps : List Str} {sp : Sp} {z qual : Str} {params : Arguments} {body : List Stmt} {scope : Scope} {dvs : List V} {kws : List (Str × V)}
/-- by its body, which is read once for each entry -/
theorem FnG.of (D : FunD K z qual params body scope dvs kws f fd) (S : FnScope N ps scope) (num : ∀ xs H Q E, sp xs H Q E → xs.length = ps.length)
    (bd : ∀ (cd : Value) (A : Around) (fr : List Env) (s : Shared) (H : Hp) (xs : List V) (Q : VK) (E : XK), (∃ oc od osl, K.lookup f = some ⟨oc, od, .func fd, osl⟩ ∧ fd.code = cd ∧ PySem.W.codeIn K cd qual = true) → RoomG k (A.deeper (envOfC qual scope s.heap.objs.size f cd)) → sp xs H Q E →
      ∃ t, PSs (cxOf CX P w K mg B N qual scope f cd A fr s H E) body t ∧ t { nx := fun _ H' => Q .non H', rt := Q } (L2.start N xs) H) : FnG P w K mg B CX (k + 1) f fd ps sp := by
  obtain ⟨oc, od, dV, kV, doc, pm, an, cd, ct, osl, efd, lk, hc, _, _⟩ := D.ex
  constructor
  · exact num
  · intro A fr s H ar as xs Q E ro e0 hb rv hs
    have kp : ∀ b o, B.get? b = some o → s.heap.get? b = some o := fun b o e => (e0.bs b o e).1
    have kin : K.In s.heap := e0.mod.kin.keeps kp
    subst efd
    obtain ⟨t, ht, hq⟩ := bd cd A fr s H xs Q E ⟨oc, od, osl, lk, rfl, hc⟩ (ro.deeper _) hs
    have par : ∀ y ∈ ps.zip as, scope.names.lookup y.1 = some .local ∨ (scope.names.lookup y.1 = some .cell ∧ ((cellsFrom (s.heap.objs.size + 1) scope.names []).lookup y.1).isSome = true) := by
      rintro ⟨y, v⟩ hy
      cases S.par y (List.of_mem_zip hy).1 with
      | inl q => exact .inl q
      | inr q => exact .inr ⟨q, PySem.W.cellsFrom_some _ _ _ (.inl q)⟩
    apply codeAny_call_function ro.r.depth (kin f _ lk) rfl S.co S.gen rfl (PySem.W.codeRec_of kin hc)
    apply hb
    apply wpAny_newFunctionEnv_cells S.kind par
    intro env he s1 x
    subst he
    have start := inv_start (CX := CX) (P := P) (w := w) (K := K) (mg := mg) (base := B) (E := E) S ro.hd e0 (num _ _ _ _ hs) rv x
    refine ⟨(e0.mod.nolimit.keeps kp).keeps x.toInCall.keep, codeAny_func (wpAny_mono (ht.run [] s1 _ H _ start hq) ?_ fun _ _ h => h)⟩
    rintro (_ | _ | _ | u) s' h
    · obtain ⟨τ, H', J, q⟩ := h; exact ⟨.non, H', J.os, J.bare, J.base, J.hok, rfl, q⟩
    · obtain ⟨_, _, _, q⟩ := h; exact q.elim
    · obtain ⟨_, _, _, q⟩ := h; exact q.elim
    · obtain ⟨v, τ, H', J, r, q⟩ := h; exact ⟨v, H', J.os, J.bare, J.base, J.hok, r, q⟩
end
section
variable {X : Cx} {CX : CXT} {k : Nat} {f C : Addr} {fd : FuncData} {ps : List Str} {sp : Sp} {E : XK} {pins : List (Addr × Obj)} {σ : L2.St} {H : Hp} {s : Shared} {Q : VK} {as : List Value} {xs : List V} {kw : List (Str × Value)}
/-- what stands behind a call -/
theorem back_of (hx : PassesAt CX X σ E) (I : Inv X pins σ H s) : ∀ {r : Result} {s' : Shared}, CR CX X.stack X.prog X.w H s Q E r s' → (match r with | .ok (.ret u) => EP X pins σ Q u s' | .ok _ => False | .error e => X.xe e s')
  | .error e, s', h => hx pins H s e s' I h
  | .ok (.ret u), s', h => I.after h
  | .ok .next, s', h => h.elim
  | .ok .brk, s', h => h.elim
  | .ok .cont, s', h => h.elim
theorem FnG.here {bs : List Value} (F : FnG X.prog X.w X.K X.mg X.base CX k f fd ps sp) (ro : RoomG k X.A) (hx : PassesAt CX X σ E) (I : Inv X pins σ H s) (hb : BindsTo s fd ⟨as, kw⟩ (ps.zip bs)) (rv : Vals xs bs) (hs : sp xs H Q E) :
    wpAny (model X.prog X.w) X.A (call (.ref f) as kw) (EP X pins σ Q) X.xe s :=
  wpAny_call (codeAny_mono (F.go ro I.env0 hb rv hs) fun r s' h => by
    have q := back_of hx I h
    cases r with
    | error e => exact q
    | ok fl => cases fl <;> exact q)
/-- an instance made: __init__ runs at the new object -/
theorem FnG.made {M : Addr → List V} (mk : Mk X.K C f) (F : FnG X.prog X.w X.K X.mg X.base CX k f fd ps sp) (ro : RoomG (k + 1) X.A) (hx : PassesAt CX X σ E) (I : Inv X pins σ H s)
    (hb : ∀ t : Shared, X.K.In t.heap → ∃ bs, BindsTo t fd ⟨.ref (s.heap.objs.size + 1) :: as, kw⟩ (ps.zip bs) ∧ Vals (M (s.heap.objs.size + 1)) bs)
    (h : ∀ p q, H p = none → H q = none → q ≠ p → sp (M p) (upd (upd H q (.own p)) p (.ins C q [])) (fun v H2 => v = .non ∧ Q (.ref p) H2) E) :
    wpAny (model X.prog X.w) X.A (call (.ref C) as kw) (EP X pins σ Q) X.xe s := by
  have J := Inv.made (C := C) I
  have g := h (s.heap.objs.size + 1) s.heap.objs.size (I.hok.fresh (Nat.le_succ _)) (I.hok.fresh (Nat.le_refl _)) (Nat.ne_of_lt (Nat.lt_succ_self _))
  obtain ⟨bs, b1, b2⟩ := hb _ J.kIn
  apply wpAny_call
  refine make_map I.kIn mk.makes mk.init (beq_iff_eq.mp mk.fn) (codeAny_mono (F.go (ro.make C as kw) (J.env0.make C as kw) b1 b2 g) ?_)
  intro r s' hq
  have q := back_of hx J hq
  cases r with
  | error e => exact q
  | ok fl =>
    cases fl with
    | ret u => obtain ⟨v, H', L, rv, ⟨rfl, q3⟩⟩ := q; exact ⟨rv, .ref (s.heap.objs.size + 1), H', L, rfl, q3⟩
    | _ => exact q
end
section
variable {X : Cx} {CX : CXT} {k n : Nat} {f C : Addr} {fd : FuncData} {ps ks : List Str} {sp : Sp} {dvs : List V} {ds : List Value} {E : XK} {pins : List (Addr × Obj)} {σ : L2.St} {H : Hp} {s : Shared} {Q : VK} {as bs : List Value} {xs ys : List V} {x m : Str} {p pos apos : Pos} {o e : Expr} {es : List Expr} {ta : TE} {t tk : TA} {g : List Value → List Value → List Value} {gV : List V → List V → List V} {kws : List Keyword}
theorem FnG.pos_ (F : FnG X.prog X.w X.K X.mg X.base CX k f fd ps sp) (ro : RoomG k X.A) (hb : Binds X.K fd ps ds) (hd : Vals dvs ds) (hx : PassesAt CX X σ E) (I : Inv X pins σ H s) (r : Vals xs as) (h : sp (xs ++ dvs) H Q E) :
    wpAny (model X.prog X.w) X.A (call (.ref f) as) (EP X pins σ Q) X.xe s :=
  F.here ro hx I (hb s as I.kIn ((r.append hd).length ▸ F.num _ _ _ _ h)) (r.append hd) h
theorem FnG.kw_ (F : FnG X.prog X.w X.K X.mg X.base CX k f fd ps sp) (ro : RoomG k X.A) (hb : KBn X.K fd ps n ks g gV) (hx : PassesAt CX X σ E) (I : Inv X pins σ H s) (r : Vals xs as) (rk : Vals ys bs) (l1 : xs.length = n) (l2 : ys.length = ks.length) (h : sp (gV xs ys) H Q E) :
    wpAny (model X.prog X.w) X.A (call (.ref f) as (ks.zip bs)) (EP X pins σ Q) X.xe s :=
  F.here ro hx I (hb.to s as bs I.kIn (r.length ▸ l1) (rk.length ▸ l2)) (hb.rel r rk) h
end
section
variable {X : Cx} {CX : CXT} {k n : Nat} {f C : Addr} {fd : FuncData} {ps ks : List Str} {sp : Sp} {dvs : List V} {ds : List Value} {E : L2.St → XK} {pins : List (Addr × Obj)} {σ : L2.St} {H : Hp} {s : Shared} {Q : VK} {as bs : List Value} {xs ys : List V} {x m : Str} {p pos apos : Pos} {o e : Expr} {es : List Expr} {ta : TE} {t tk : TA} {g : List Value → List Value → List Value} {gV : List V → List V → List V} {kws : List Keyword}
theorem FnG.call_ (F : FnG X.prog X.w X.K X.mg X.base CX k f fd ps sp) (ro : RoomG k X.A) (hg : Gl X x) (hm : X.mg x = some (.ref f)) (hk : PySem.W.keepIn X.K (.ref f) = true) (hb : Binds X.K fd ps ds) (hd : Vals dvs ds) (hx : ∀ σ, PassesAt CX X σ (E σ))
    (ha : PA X (e :: es) t) (hdb : (x == ("__debug__" : Str)) = false) (he : starEach (e :: es) X.env = (false, eval e X.env) :: starEach es X.env) (hpl : (backTo pos (starEach es X.env)).any (·.1) = false) :
    PE X (.Call (.Name x p) (e :: es) [] pos) (fun σ H Q => tCall sp dvs (E σ) t σ H Q) := by
  constructor
  intro pins s σ H Q I h
  apply wpAny_Call_Name_kw
  apply ld_glob I hg hm _ hdb
  exact PySem.W.callWith_K (h₀ := X.base) I.ok.mod.kin hk (thn (ha.run pos pins s σ H _ I h) fun as s1 ⟨xs, H1, J, r, q⟩ => ⟨J.kIn, F.pos_ ro hb hd (hx σ) J r q⟩) he hpl
theorem FnG.callk0_ (F : FnG X.prog X.w X.K X.mg X.base CX k f fd ps sp) (ro : RoomG k X.A) (hg : Gl X x) (hm : X.mg x = some (.ref f)) (hk : PySem.W.keepIn X.K (.ref f) = true) (hb : KBn X.K fd ps 0 ks g gV) (hx : ∀ σ, PassesAt CX X σ (E σ))
    (hkw : PK X kws tk) (hall : (backToKw pos (keywordEach kws X.env)).all (·.1.isSome) = true) (hks : (backToKw pos (keywordEach kws X.env)).filterMap (·.1) = ks)
    (hdb : (x == ("__debug__" : Str)) = false) (hpl : ((backTo pos (starEach [] X.env)).any (·.1) || (backToKw pos (keywordEach kws X.env)).any (·.1.isNone)) = false) :
    PE X (.Call (.Name x p) [] kws pos) (fun σ H Q => tCallN 0 ks.length sp gV (E σ) tNil tk σ H Q) := by
  constructor
  intro pins s σ H Q I h
  apply wpAny_Call_Name_kw
  apply ld_glob I hg hm _ hdb
  refine PySem.W.callWith_KW0 (h₀ := X.base) I.ok.mod.kin hk hall (thn (hkw.run pos pins s σ H _ I h) fun bs s2 ⟨ys, H2, L, rk, l1, l2, q2⟩ => ⟨L.kIn, ?_⟩) hpl
  subst hks
  exact F.kw_ (as := []) ro hb (hx σ) L .nil rk l1 l2 q2
/-- the value of o, then the method m of its class -/
def MForm (X : Cx) (o : Expr) (m : Str) (apos : Pos) (es : List Expr) (kws : List Keyword) (pos : Pos) : Prop :=
  ∃ pl : Sem Bool, eval (.Call (.Attribute o m apos) es kws pos) X.env = (do
    let v ← eval o X.env
    standAt apos.atName
    let (fn, ahead) ← holding [v] (getMethod v m pl)
    callWith pos fn ahead (backTo pos (starEach es X.env)) (backToKw pos (keywordEach kws X.env)))
theorem FnG.meth_ (ho : PE X o ta) (c : Cls X.K C) (hm : Meth X.K C m f) (F : FnG X.prog X.w X.K X.mg X.base CX k f fd ps sp) (ro : RoomG k X.A) (hb : Binds X.K fd ps ds) (hd : Vals dvs ds) (hx : ∀ σ, PassesAt CX X σ (E σ)) (ha : PA X (e :: es) t)
    (he : starEach (e :: es) X.env = (false, eval e X.env) :: starEach es X.env) (hpl : (backTo pos (starEach es X.env)).any (·.1) = false) (ht : MForm X o m apos (e :: es) [] pos) :
    PE X (.Call (.Attribute o m apos) (e :: es) [] pos) (fun σ H Q => tMeth C m sp dvs (E σ) ta t σ H Q) := by
  constructor
  intro pins s σ H Q I h
  obtain ⟨pl, ht⟩ := ht
  refine PySem.W.methodCall_KW (pl := pl) (thn (ho.run pins s σ H _ I h) ?_) ht
  rintro v s1 ⟨y, H1, J, ry, a, q, fs, rfl, ea, l, h1⟩
  cases ry
  exact getmeth_ok J ea c hm l (PySem.W.callWith_K (first := [.ref a]) (h₀ := X.base) I.ok.mod.kin hm.kp (thn (ha.run pos pins s1 σ H1 _ J h1) fun as s2 ⟨xs, H2, L, r, h2⟩ => ⟨L.kIn, F.pos_ (as := .ref a :: as) (xs := .ref a :: xs) ro hb hd (hx σ) L (.cons rfl r) h2⟩) he hpl)
theorem FnG.make_ (mk : Mk X.K C f) (F : FnG X.prog X.w X.K X.mg X.base CX k f fd ps sp) (ro : RoomG (k + 1) X.A) (hg : Gl X x) (hm : X.mg x = some (.ref C)) (hb : Binds X.K fd ps ds) (hd : Vals dvs ds) (hx : ∀ σ, PassesAt CX X σ (E σ))
    (ha : PA X (e :: es) t) (hdb : (x == ("__debug__" : Str)) = false) (he : starEach (e :: es) X.env = (false, eval e X.env) :: starEach es X.env) (hpl : (backTo pos (starEach es X.env)).any (·.1) = false) :
    PE X (.Call (.Name x p) (e :: es) [] pos) (fun σ H Q => tMake C sp dvs (E σ) t σ H Q) := by
  constructor
  intro pins s σ H Q I h
  apply wpAny_Call_Name_kw
  apply ld_glob I hg hm _ hdb
  refine PySem.W.callWith_K (h₀ := X.base) I.ok.mod.kin mk.kp (thn (ha.run pos pins s σ H _ I h) fun as s1 ⟨xs, H1, J, r, q⟩ => ⟨J.kIn, ?_⟩) he hpl
  refine F.made (M := fun a => .ref a :: (xs ++ dvs)) mk ro (hx σ) J (fun t kt => ?_) q
  have rr : Vals (V.ref (s1.heap.objs.size + 1) :: (xs ++ dvs)) (Value.ref (s1.heap.objs.size + 1) :: (as ++ ds)) := .cons rfl (r.append hd)
  refine ⟨_, hb t (.ref (s1.heap.objs.size + 1) :: as) kt ?_, rr⟩
  exact rr.length.symm.trans (F.num _ _ _ _ (q (s1.heap.objs.size + 1) s1.heap.objs.size (J.hok.fresh (Nat.le_succ _)) (J.hok.fresh (Nat.le_refl _)) (Nat.ne_of_lt (Nat.lt_succ_self _))))
/-- a property's getter -/
theorem FnG.prop_ {pr : Addr} (ho : PE X e ta) (c : Cls X.K C) (hp : PropOf X.K C m pr f) (F : FnG X.prog X.w X.K X.mg X.base CX k f fd ps sp) (ro : RoomG (k + 1) X.A) (hb : Binds X.K fd ps ds) (hd : Vals dvs ds) (hx : ∀ σ, PassesAt CX X.nox σ (E σ))
    (hab : attributeBase e m X.env (eval e X.env) = eval e X.env) : PE X (.Attribute e m pos) (fun σ H Q => tProp C sp dvs (E σ) ta σ H Q) := by
  constructor
  intro pins s σ H Q I h
  refine attr_of hab (thn (ho.run pins s σ H _ I h) ?_)
  rintro v s1 ⟨y, H1, J, ry, a, q, fs, rfl, ea, h1⟩
  cases ry
  obtain ⟨mA, O, _, _, _, _⟩ := ins_get J.hok ea
  obtain ⟨od, at_, _⟩ := O.look
  obtain ⟨rest, hrec⟩ := hp.rec_
  have L := J.tok (s1.toks + 1)
  have hc : (PySem.W.clsIn X.K C).isSome = true := by obtain ⟨cd, hc, _⟩ := PySem.W.any_some c.hd; rw [hc]; rfl
  have len : ([Value.ref a] ++ ds).length = ps.length := by
    have z := F.num _ _ _ _ h1
    rw [← z, List.length_append, List.length_cons, ← hd.length]
    exact Nat.add_comm _ _
  refine PySem.W.get_bind J.kIn at_ (PySem.W.plainGet_of (c.get m)).1 (PySem.W.findObj_data hc hp.at_ hp.get hp.tak) (PySem.W.plainGet_of (c.get m)).2 ?_
  refine wpAny_call (PySem.W.prop_get (s := { s1 with toks := s1.toks + 1 }) J.kIn hrec (codeAny_mono (F.go (xs := .ref a :: dvs) ro.in1 L.env0.in1 (hb _ [.ref a] L.kIn len) (.cons rfl hd) h1) fun r s' hq => ?_))
  cases r with
  | error er => exact (hx σ pins H1 _ er s' (L.wish _) hq).elim
  | ok fl =>
    cases fl with
    | ret u =>
      obtain ⟨v, H', M, rv, q3⟩ := L.after hq
      show wpAny _ _ (handedOut u) _ _ _
      rw [PySem.W.handedOut_of (handed_of rv)]
      exact wpAny_pure ⟨v, H', M, rv, q3⟩
    | _ => exact hq.elim
end
end VM

/-! VM5: comprehensions, calls of defs, bodies of defs. -/
namespace VM
open PySem PySem.Spec PyProof.Rows L2

/-! ### comprehensions -/
def xF : XC := fun _ _ _ => False
def wipeE (es : Es) : List Nat → Es
  | [] => es
  | v :: vs => (wipeE es vs).set v none
theorem Rl.set_none {K mg Hd eh H} {es : Es} {σ : L2.St} {i : Nat} (R : Rl K mg Hd eh H es σ) : Rl K mg Hd eh H (es.set i none) (σ.set i none) := by
  refine ⟨by simp [R.len], fun j y e => ?_, R.obj⟩
  by_cases h : i = j
  · subst h
    rw [List.getElem?_set] at e
    simp only [ite_true] at e
    split at e <;> cases e
  · rw [List.getElem?_set_ne h] at e
    obtain ⟨w, hw, q⟩ := R.loc j y e
    exact ⟨w, by rw [List.getElem?_set_ne h]; exact hw, q⟩
theorem Rl.wipe {K mg Hd eh H} {es : Es} {σ : L2.St} (R : Rl K mg Hd eh H es σ) : ∀ vs, Rl K mg Hd eh H (wipeE es vs) (wipe σ vs)
  | [] => R
  | v :: vs => (R.wipe vs).set_none
theorem getElem_wipe (σ : L2.St) : ∀ (vs : List Nat) (i : Nat), (wipe σ vs)[i]? = if i ∈ vs then (if i < σ.length then some none else none) else σ[i]?
  | [], i => by simp [wipe]
  | v :: vs, i => by
    unfold wipe
    rw [List.getElem?_set, wipe_length, getElem_wipe σ vs i]
    by_cases h : v = i
    · subst h; simp
    · have h' : ¬ i = v := fun z => h z.symm
      simp [h, h']
theorem wipe_same {σ σ' : L2.St} {vs : List Nat} (hl : σ'.length = σ.length) (h : ∀ i, i ∉ vs → σ'[i]? = σ[i]?) : wipe σ' vs = wipe σ vs := by
  apply List.ext_getElem?
  intro i
  rw [getElem_wipe, getElem_wipe, hl]
  by_cases hi : i ∈ vs
  · simp [hi]
  · simp [hi, h i hi]
theorem wipe_wipe {σ : L2.St} {vs : List Nat} : wipe (wipe σ vs) vs = wipe σ vs :=
  wipe_same (wipe_length σ vs) fun i hi => by rw [getElem_wipe]; simp [hi]
def compL (g : Tg) (tt : MT) (te : ME) (vs : List Nat) (ok : Eh → Prop) (q : KE) : List EV → List EV → Es → Eh → Prop
  | [], acc, es, eh => ok eh ∧ q (.lst acc) eh
  | x :: xs, acc, es, eh => ok eh ∧ ∃ es', asg g x (wipeE es vs) = some es' ∧ tt xF es' eh fun b eh1 => match b with
    | true => te xF es' eh1 fun y eh2 => acc.length < sizeLine ∧ compL g tt te vs ok q xs (acc ++ [y]) es eh2
    | false => compL g tt te vs ok q xs acc es eh1
def mComp (mi : MI) (g : Tg) (tt : MT) (te : ME) (vs : List Nat) : ME := fun xc es eh q => mi xc es eh fun xs ok eh1 => compL g tt te vs ok q xs [] es eh1
def tYesE : MT := fun _ _ eh q => q true eh
/-- two sources: behind the outer target the inner source is walked -/
def comp2In (g : Tg) (tt : MT) (te : ME) (vs : List Nat) (ok : Eh → Prop) (k : List EV → Eh → Prop) : List EV → List EV → Es → Eh → Prop
  | [], acc, es, eh => ok eh ∧ k acc eh
  | x :: xs, acc, es, eh => ok eh ∧ ∃ es', asg g x (wipeE es vs) = some es' ∧ tt xF es' eh fun b eh1 => match b with
    | true => te xF es' eh1 fun y eh2 => acc.length < sizeLine ∧ comp2In g tt te vs ok k xs (acc ++ [y]) es eh2
    | false => comp2In g tt te vs ok k xs acc es eh1
def comp2L (g : Tg) (tt : MT) (mi1 : MI) (g1 : Tg) (tt1 : MT) (te : ME) (vs vs1 : List Nat) (ok : Eh → Prop) (q : KE) : List EV → List EV → Es → Eh → Prop
  | [], acc, es, eh => ok eh ∧ q (.lst acc) eh
  | x :: xs, acc, es, eh => ok eh ∧ ∃ es', asg g x (wipeE es vs) = some es' ∧ tt xF es' eh fun b eh1 => match b with
    | true => mi1 xF es' eh1 fun ys ok1 eh2 => comp2In g1 tt1 te vs1 ok1 (fun acc' eh3 => comp2L g tt mi1 g1 tt1 te vs vs1 ok q xs acc' es eh3) ys acc es' eh2
    | false => comp2L g tt mi1 g1 tt1 te vs vs1 ok q xs acc es eh1
def mComp2 (mi : MI) (g : Tg) (tt : MT) (mi1 : MI) (g1 : Tg) (tt1 : MT) (te : ME) (vs vs1 : List Nat) : ME := fun xc es eh q => mi xc es eh fun xs ok eh1 => comp2L g tt mi1 g1 tt1 te vs vs1 ok q xs [] es eh1
theorem XOk.no {K mg Hd eh H} : XOk K mg E0 Hd eh H xF := fun _ _ _ _ _ _ _ _ _ _ _ _ h => h.elim
section
variable {K : PySem.W.Frag} {mg : MW} {E : XK} {Hd : Addr → Prop} {eh : Eh} {H : Hp} {D : Addr}
/-- one more is hidden: the new list -/
theorem hide {vs : List V} (R : Rh K mg Hd eh H) (n : H D = none) : Rh K mg (fun a => Hd a ∨ a = D) eh (upd H D (.lst vs)) := by
  refine ⟨tabs_new R.tb n, fun a u e => ?_, fun a z => ?_⟩
  · obtain ⟨w, hw, _⟩ := (R.ob a u e).some
    exact ((R.ob a u e).hid fun b z => z.elim .inl fun z => .inr (z ▸ n)).step' (.newF n) (upd_ne (ne_of_none hw n))
  · rcases z with z | z
    · exact (R.newF n).hd a z
    · subst z; exact ⟨⟨_, upd_same⟩, R.fresh n⟩
/-- what is hidden is written -/
theorem hid_ne (hd : Hd D) {a : Addr} (n : ¬ Hd a) : a ≠ D := fun z => n (z ▸ hd)
section
variable (hd : Hd D) {va : List V} (e : H D = some (.lst va)) (o : HO)
include hd e
theorem SqT.hw {a : Addr} {vs : List V} (h : SqT K H a vs) : SqT K (upd H D o) a vs := by
  rcases h with (h | ⟨w, h⟩) | h
  · exact .inl (.inl (by rw [upd_ne fun z => by subst z; rw [e] at h; cases h]; exact h))
  · exact .inl (.inr ⟨w, by rw [upd_ne fun z => by subst z; rw [e] at h; cases h]; exact h⟩)
  · exact .inr h
mutual
theorem Rp.hw : ∀ {x : EV} {v : V}, Rp K mg Hd eh H x v → Rp K mg Hd eh (upd H D o) x v
  | .non, _, h => h
  | .bl _, _, h => h
  | .int _, _, h => h
  | .str _, _, h => h
  | .ty _, _, h => h
  | .ref _, _, h => h
  | .glo _, _, h => h
  | .tup xs, _, ⟨a, vs, z, h, r⟩ => ⟨a, vs, z, SqT.hw hd e o h, RpL.hw r⟩
  | .scr ns, _, ⟨a, z, h⟩ => ⟨a, z, by
    rcases h with ⟨w, h⟩ | ⟨h, n, m⟩ | h
    · exact .inl ⟨w, by rw [upd_ne fun z => by subst z; rw [e] at h; cases h]; exact h⟩
    · exact .inr (.inl ⟨by rw [upd_ne (hid_ne hd m)]; exact h, n, m⟩)
    · exact .inr (.inr h)⟩
  | .lst xs, _, ⟨a, vs, z, h, n, r⟩ => ⟨a, vs, z, by rw [upd_ne (hid_ne hd n.2)]; exact h, n, RpL.hw r⟩
  | .dct xs, _, ⟨a, w, vs, z, h, r⟩ => ⟨a, w, vs, z, by rw [upd_ne fun z => by subst z; rw [e] at h; cases h]; exact h, RpK.hw r⟩
  | .obj C fs, _, ⟨a, c, dx, us, z, m, h, n, r⟩ => ⟨a, c, dx, us, z, m, by rw [upd_ne (hid_ne hd n.2)]; exact h, n, RpF.hw r⟩
  | .exc C x, _, ⟨a, c, d, u, z, m, h, h', n, n', r⟩ => ⟨a, c, d, u, z, m, by rw [upd_ne (hid_ne hd n.2)]; exact h, by rw [upd_ne (hid_ne hd n'.2)]; exact h', n, n', Rp.hw r⟩
  | .exa _ C x, _, ⟨a, c, d, u, z, m, h, h', n, n', r⟩ => ⟨a, c, d, u, z, m, by rw [upd_ne (hid_ne hd n.2)]; exact h, by rw [upd_ne (hid_ne hd n'.2)]; exact h', n, n', Rp.hw r⟩
  | .dn xs, _, ⟨a, w, ys, us, z, h, ⟨z1, z2, z3, z4, z5⟩, r⟩ => ⟨a, w, ys, us, z, by rw [upd_ne fun z => by subst z; rw [e] at h; cases h]; exact h, ⟨z1, z2, z3, fun x hx => ⟨(z4 x hx).1.ext fun _ _ w => SqT.hw hd e o w, (z4 x hx).2⟩, z5⟩, RpN.hw r⟩
theorem RpL.hw : ∀ {x : List EV} {v : List V}, RpL K mg Hd eh H x v → RpL K mg Hd eh (upd H D o) x v
  | [], _, h => h
  | _ :: _, _, ⟨v, r, z, h, t⟩ => ⟨v, r, z, Rp.hw h, RpL.hw t⟩
theorem RpK.hw : ∀ {x : List (Key × EV)} {v : List (Key × V)}, RpK K mg Hd eh H x v → RpK K mg Hd eh (upd H D o) x v
  | [], _, h => h
  | (_, _) :: _, _, ⟨v, r, z, h, t⟩ => ⟨v, r, z, Rp.hw h, RpK.hw t⟩
theorem RpF.hw : ∀ {x : List (Str × EV)} {v : List (Str × V)}, RpF K mg Hd eh H x v → RpF K mg Hd eh (upd H D o) x v
  | [], _, h => h
  | (_, _) :: _, _, ⟨v, r, z, h, t⟩ => ⟨v, r, z, Rp.hw h, RpF.hw t⟩
theorem RpN.hw : ∀ {x : List (NestedKey × EV)} {v : List V}, RpN K mg Hd eh H x v → RpN K mg Hd eh (upd H D o) x v
  | [], _, h => h
  | (_, _) :: _, _, ⟨v, r, z, h, t⟩ => ⟨v, r, z, Rp.hw h, RpN.hw t⟩
end
end
theorem Rh.hw (R : Rh K mg Hd eh H) (hd : Hd D) {va : List V} (e : H D = some (.lst va)) (vb : List V) : Rh K mg Hd eh (upd H D (.lst vb)) := by
  refine ⟨tabs_write R.tb e (fun _ z => nomatch z) (fun _ _ z => nomatch z), fun a u ea => ?_, fun a z => ?_⟩
  · have na : a ≠ D := fun z => by subst z; have := (R.hd a hd).2; rw [ea] at this; cases this
    have z := R.ob a u ea
    cases u with
    | lst xs => obtain ⟨vs, q, r⟩ := z; exact ⟨vs, by rw [upd_ne na]; exact q, r.hw hd e _⟩
    | dct xs => obtain ⟨vs, q, r⟩ := z; exact ⟨vs, by rw [upd_ne na]; exact q, r.hw hd e _⟩
    | ins C fs => obtain ⟨c, dx, us, m, q, r⟩ := z; exact ⟨c, dx, us, m, by rw [upd_ne na]; exact q, r.hw hd e _⟩
    | dN xs =>
      obtain ⟨ys, us, q, z, hz, ek, k, v, r⟩ := z
      exact ⟨ys, us, by rw [upd_ne na]; exact q, z, hz, ek, fun x hx => ⟨(k x hx).1.ext fun b ws w => SqT.hw hd e _ w, (k x hx).2⟩, v, r.hw hd e _⟩
  · obtain ⟨⟨w, hw⟩, n⟩ := R.hd a z
    by_cases ha : a = D
    · subst ha; exact ⟨⟨_, upd_same⟩, n⟩
    · exact ⟨⟨w, by rw [upd_ne ha]; exact hw⟩, n⟩
theorem Step.over {eh' : Eh} {H' : Hp} {o : HO} (s : Step eh H eh' H') (n : H D = none) : Step eh H eh' (upd H' D o) :=
  ⟨fun a u h m t => ⟨by rw [upd_ne (ne_of_none h n)]; exact (s.st a u h m t).1, (s.st a u h m t).2⟩, fun a xs h => by rw [upd_ne (ne_of_none h n)]; exact s.tup a xs h, fun a w u h => by rw [upd_ne (ne_of_none h n)]; exact s.frz a w u h⟩
theorem Rl.hid {Hd' : Addr → Prop} {es : Es} {σ : L2.St} (R : Rl K mg Hd eh H es σ) (i : ∀ a, Hd' a → Hd a ∨ H a = none) {eh' : Eh} {H' : Hp} (s : Step eh H eh' H') (R' : Rh K mg Hd' eh' H') : Rl K mg Hd' eh' H' es σ :=
  ⟨R.len, fun j x e => let ⟨v, a, b⟩ := R.loc j x e; ⟨v, a, (b.hid i).step s⟩, R'⟩
section
variable {K : PySem.W.Frag} {mg : MW} {Hd : Addr → Prop} {eh : Eh} {H : Hp} {D : Addr} {o : Option EO}
mutual
theorem Rp.unh : ∀ {x : EV} {v : V}, Rp K mg (fun a => Hd a ∨ a = D) eh H x v → Rp K mg Hd (eupd eh D o) H x v
  | .non, _, h => h
  | .bl _, _, h => h
  | .int _, _, h => h
  | .str _, _, h => h
  | .ty _, _, h => h
  | .ref _, _, h => h
  | .glo _, _, h => h
  | .tup xs, _, ⟨a, vs, z, h, r⟩ => ⟨a, vs, z, h, RpL.unh r⟩
  | .scr ns, _, ⟨a, z, h⟩ => ⟨a, z, by
    rcases h with ⟨w, h⟩ | ⟨h, n, m⟩ | h
    · exact .inl ⟨w, h⟩
    · exact .inr (.inl ⟨h, by rw [eupd_ne fun z => m (.inr z)]; exact n, fun z => m (.inl z)⟩)
    · exact .inr (.inr h)⟩
  | .lst xs, _, ⟨a, vs, z, h, n, r⟩ => ⟨a, vs, z, h, ⟨by rw [eupd_ne fun z => n.2 (.inr z)]; exact n.1, fun z => n.2 (.inl z)⟩, RpL.unh r⟩
  | .dct xs, _, ⟨a, w, vs, z, h, r⟩ => ⟨a, w, vs, z, h, RpK.unh r⟩
  | .obj C fs, _, ⟨a, c, dx, us, z, m, h, n, r⟩ => ⟨a, c, dx, us, z, m, h, ⟨by rw [eupd_ne fun z => n.2 (.inr z)]; exact n.1, fun z => n.2 (.inl z)⟩, RpF.unh r⟩
  | .exc C x, _, ⟨a, c, d, u, z, m, h, h', n, n', r⟩ => ⟨a, c, d, u, z, m, h, h', ⟨by rw [eupd_ne fun z => n.2 (.inr z)]; exact n.1, fun z => n.2 (.inl z)⟩, ⟨by rw [eupd_ne fun z => n'.2 (.inr z)]; exact n'.1, fun z => n'.2 (.inl z)⟩, Rp.unh r⟩
  | .exa _ C x, _, ⟨a, c, d, u, z, m, h, h', n, n', r⟩ => ⟨a, c, d, u, z, m, h, h', ⟨by rw [eupd_ne fun z => n.2 (.inr z)]; exact n.1, fun z => n.2 (.inl z)⟩, ⟨by rw [eupd_ne fun z => n'.2 (.inr z)]; exact n'.1, fun z => n'.2 (.inl z)⟩, Rp.unh r⟩
  | .dn xs, _, ⟨a, w, ys, us, z, h, q, r⟩ => ⟨a, w, ys, us, z, h, q, RpN.unh r⟩
theorem RpL.unh : ∀ {x : List EV} {v : List V}, RpL K mg (fun a => Hd a ∨ a = D) eh H x v → RpL K mg Hd (eupd eh D o) H x v
  | [], _, h => h
  | _ :: _, _, ⟨v, r, z, h, t⟩ => ⟨v, r, z, Rp.unh h, RpL.unh t⟩
theorem RpK.unh : ∀ {x : List (Key × EV)} {v : List (Key × V)}, RpK K mg (fun a => Hd a ∨ a = D) eh H x v → RpK K mg Hd (eupd eh D o) H x v
  | [], _, h => h
  | (_, _) :: _, _, ⟨v, r, z, h, t⟩ => ⟨v, r, z, Rp.unh h, RpK.unh t⟩
theorem RpF.unh : ∀ {x : List (Str × EV)} {v : List (Str × V)}, RpF K mg (fun a => Hd a ∨ a = D) eh H x v → RpF K mg Hd (eupd eh D o) H x v
  | [], _, h => h
  | (_, _) :: _, _, ⟨v, r, z, h, t⟩ => ⟨v, r, z, Rp.unh h, RpF.unh t⟩
theorem RpN.unh : ∀ {x : List (NestedKey × EV)} {v : List V}, RpN K mg (fun a => Hd a ∨ a = D) eh H x v → RpN K mg Hd (eupd eh D o) H x v
  | [], _, h => h
  | (_, _) :: _, _, ⟨v, r, z, h, t⟩ => ⟨v, r, z, Rp.unh h, RpN.unh t⟩
end
theorem Rh.unh {acc : List EV} {va : List V} (R : Rh K mg (fun a => Hd a ∨ a = D) eh H) (nH : ¬ Hd D) (e : H D = some (.lst va)) (r : RpL K mg (fun a => Hd a ∨ a = D) eh H acc va) : Rh K mg Hd (eupd eh D (some (.lst acc))) H := by
  refine ⟨R.tb, fun a u ea => ?_, fun a z => ?_⟩
  · by_cases ha : a = D
    · subst ha
      rw [eupd_same] at ea; cases ea
      exact ⟨va, e, r.unh⟩
    · rw [eupd_ne ha] at ea
      have z := R.ob a u ea
      cases u with
      | lst xs => obtain ⟨vs, q, r⟩ := z; exact ⟨vs, q, r.unh⟩
      | dct xs => obtain ⟨vs, q, r⟩ := z; exact ⟨vs, q, r.unh⟩
      | ins C fs => obtain ⟨c, dx, us, m, q, r⟩ := z; exact ⟨c, dx, us, m, q, r.unh⟩
      | dN xs => obtain ⟨ys, us, q, z, hz, ek, k, v, r⟩ := z; exact ⟨ys, us, q, z, hz, ek, k, v, r.unh⟩
  · obtain ⟨h, n⟩ := R.hd a (.inl z)
    by_cases ha : a = D
    · subst ha; exact absurd z nH
    · exact ⟨h, by rw [eupd_ne ha]; exact n⟩
end
theorem lc_gen {mi : MI} {g : Tg} {tt : MT} {te : ME} {vs : List Nat} (hv : ∀ i ∈ slots g, i ∈ vs) {σ : L2.St} {H : Hp} {Q : VK} {q : KE} {Hd : Addr → Prop} {es : Es} {eh : Eh} {xc : XC} (R : Rl K mg Hd eh H es σ) (xo : XOk K mg E Hd eh H xc) (m : mComp mi g tt te vs xc es eh q)
    (k : ∀ ehA HA, Step eh H ehA HA → ∀ eh1 H1 acc D va, HA D = none → Step ehA HA eh1 H1 → Rh K mg (fun a => Hd a ∨ a = D) eh1 H1 → H1 D = some (.lst va) → eh1 D = none → ¬ Hd D → RpL K mg (fun a => Hd a ∨ a = D) eh1 H1 acc va → q (.lst acc) eh1 → Q (.ref D) H1) : tLc (UI K mg E mi) (UG K mg g) (UT K mg E0 tt) (U K mg E0 te) vs σ H Q :=
  ⟨Hd, es, eh, xc, _, R, xo, m, fun ehA HA xs ok J sA RA jo mA D hD => by
    have hh : ∀ a, (Hd a ∨ a = D) → Hd a ∨ HA a = none := fun a z => z.elim .inl fun z => .inr (z ▸ hD)
    have RlA := R.step sA RA
    refine ⟨fun i n H => ∃ eh acc va, i + n = xs.length ∧ Step ehA HA eh H ∧ Rh K mg (fun a => Hd a ∨ a = D) eh H ∧ H D = some (.lst va) ∧ RpL K mg (fun a => Hd a ∨ a = D) eh H acc va ∧ compL g tt te vs ok q (xs.drop i) acc es eh,
      ⟨xs.length, ehA, [], [], by omega, .newF hD, hide RA hD, upd_same, .nil, mA⟩, ?_⟩
    rintro i n H ⟨eh, acc, va, hn, s1, R1, eD, rA, f⟩
    cases hd : xs.drop i with
    | nil =>
      rw [hd] at f
      have : xs.length ≤ i := by simpa using hd
      exact .inl ⟨jo.stop i _ eh H hh s1.w R1 f.1 this, k ehA HA sA eh H acc D va hD s1 R1 eD (R1.hd D (.inr rfl)).2 (RA.notHid hD) rA f.2⟩
    | cons x r =>
      rw [hd] at f
      obtain ⟨hx, hr, hl⟩ := drop_cons hd
      obtain ⟨o, es', ea, f⟩ := f
      refine .inr ⟨jo.go i _ eh H hh s1.w R1 o hl, fun H => ∃ eh acc va, (i + 1) + (n - 1) = xs.length ∧ Step ehA HA eh H ∧ Rh K mg (fun a => Hd a ∨ a = D) eh H ∧ H D = some (.lst va) ∧ RpL K mg (fun a => Hd a ∨ a = D) eh H acc va ∧ compL g tt te vs ok q (xs.drop (i + 1)) acc es eh,
        fun H' w => ⟨n - 1, by omega, w⟩, fun v H2 y => ?_⟩
      obtain ⟨x', hx', s2, R2, r2, kp⟩ := jo.yld i _ eh H v H2 hh s1.w R1 o hl y
      rw [hx] at hx'; cases hx'
      have eD2 := kp D _ eD
      have nD := (R1.hd D (.inr rfl)).2
      have Rs : Rl K mg (fun a => Hd a ∨ a = D) eh H2 es σ := RlA.hid hh (s1.trans s2) R2
      refine ⟨_, wipeE es vs, eh, x, es', Rs.wipe vs, r2, ea, fun σ3 R3 l3 s3 => ⟨?_, _, es', eh, xF, _, R3, .no, f, fun eh4 H4 b s4 R4 f4 => ?_⟩⟩
      · refine (wipe_same (σ := wipe σ vs) l3 fun i hi => s3 i fun z => hi (hv i z)).trans wipe_wipe
      · have e4 := s4.st D _ eD2 nD (fun _ z => nomatch z)
        cases b with
        | true =>
          refine iteT ⟨_, es', eh4, xF, _, R3.step s4 R4, .no, f4, fun eh5 H5 y v s5 R5 r5 ⟨hl, f5⟩ => ?_⟩
          have e5 := s5.st D _ e4.1 e4.2 (fun _ z => nomatch z)
          refine ⟨va, e5.1, by rw [← rA.length]; exact hl, eh5, acc ++ [y], va ++ [v], by omega, ((s1.trans (s2.trans (s4.trans s5)))).over hD, R5.hw (.inr rfl) e5.1 _, upd_same, ?_, by rw [hr]; exact f5⟩
          exact RpL.hw (.inr rfl) e5.1 _ ((rA.step (s2.trans (s4.trans s5))).append (.one r5))
        | false => exact iteF ⟨eh4, acc, va, by omega, s1.trans (s2.trans s4), R4, e4.1, rA.step (s2.trans s4), by rw [hr]; exact f4⟩⟩
theorem lc_lift {mi : MI} {g : Tg} {tt : MT} {te : ME} {vs : List Nat} (hv : ∀ i ∈ slots g, i ∈ vs) : ∀ σ H Q, U K mg E (mComp mi g tt te vs) σ H Q → tLc (UI K mg E mi) (UG K mg g) (UT K mg E0 tt) (U K mg E0 te) vs σ H Q :=
  fun σ H Q ⟨Hd, es, eh, xc, q, R, xo, m, k⟩ => lc_gen hv R xo m fun ehA HA sA eh H acc D va hD s1 R1 eD nD nH rA f => k eh H (.lst acc) (.ref D) (sA.trans s1) (R1.less fun _ z => .inl z) ⟨D, va, rfl, eD, ⟨nD, nH⟩, rA.hid fun _ z => .inl (.inl z)⟩ f
/-- a list comprehension whose list will be written -/
def qRef (q : KE) : KE := fun z eh => ∃ acc, z = .lst acc ∧ ∀ p, eh p = none → q (.ref p) (eupd eh p (some (.lst acc)))
def mCompR (mi : MI) (g : Tg) (tt : MT) (te : ME) (vs : List Nat) : ME := fun xc es eh q => mComp mi g tt te vs xc es eh (qRef q)
theorem lc_liftR {mi : MI} {g : Tg} {tt : MT} {te : ME} {vs : List Nat} (hv : ∀ i ∈ slots g, i ∈ vs) : ∀ σ H Q, U K mg E (mCompR mi g tt te vs) σ H Q → tLc (UI K mg E mi) (UG K mg g) (UT K mg E0 tt) (U K mg E0 te) vs σ H Q :=
  fun σ H Q ⟨Hd, es, eh, xc, q, R, xo, m, k⟩ => lc_gen hv R xo m fun ehA HA sA eh1 H1 acc D va hD s1 R1 eD nD nH rA ⟨acc', e, f⟩ => by
    cases e
    refine k (eupd eh1 D (some (.lst acc))) H1 (.ref D) (.ref D) ⟨fun a o h n t => ⟨((sA.trans s1).st a o h n t).1, ?_⟩, (sA.trans s1).tup, (sA.trans s1).frz⟩ (R1.unh nH eD rA) rfl (f D nD)
    by_cases ha : a = D
    · subst ha
      have := (sA.st a o h n t).1
      rw [hD] at this; cases this
    · rw [eupd_ne ha]; exact ((sA.trans s1).st a o h n t).2
theorem lc2_lift {mi mi1 : MI} {g g1 : Tg} {tt tt1 : MT} {te : ME} {vs vs1 : List Nat} (hv : ∀ i ∈ slots g, i ∈ vs) (hv1 : ∀ i ∈ slots g1, i ∈ vs1) : ∀ σ H Q, U K mg E (mComp2 mi g tt mi1 g1 tt1 te vs vs1) σ H Q →
    tLc2 (UI K mg E mi) (UG K mg g) (UT K mg E0 tt) (UI K mg E0 mi1) (UG K mg g1) (UT K mg E0 tt1) (U K mg E0 te) vs vs1 σ H Q :=
  fun σ H Q ⟨Hd, es, eh, xc, q, R, xo, m, k⟩ => ⟨Hd, es, eh, xc, _, R, xo, m, fun ehA HA xs ok J sA RA jo mA D hD => by
    have hh : ∀ a, (Hd a ∨ a = D) → Hd a ∨ HA a = none := fun a z => z.elim .inl fun z => .inr (z ▸ hD)
    have RlA := R.step sA RA
    refine ⟨fun i n H => ∃ eh acc va, i + n = xs.length ∧ Step ehA HA eh H ∧ Rh K mg (fun a => Hd a ∨ a = D) eh H ∧ H D = some (.lst va) ∧ RpL K mg (fun a => Hd a ∨ a = D) eh H acc va ∧ comp2L g tt mi1 g1 tt1 te vs vs1 ok q (xs.drop i) acc es eh,
      ⟨xs.length, ehA, [], [], by omega, .newF hD, hide RA hD, upd_same, .nil, mA⟩, ?_⟩
    rintro i n H ⟨eh, acc, va, hn, s1, R1, eD, rA, f⟩
    cases hd : xs.drop i with
    | nil =>
      rw [hd] at f
      have : xs.length ≤ i := by simpa using hd
      exact .inl ⟨jo.stop i _ eh H hh s1.w R1 f.1 this, k eh H (.lst acc) (.ref D) (sA.trans s1) (R1.less fun _ z => .inl z) ⟨D, va, rfl, eD, ⟨(R1.hd D (.inr rfl)).2, RA.notHid hD⟩, rA.hid fun _ z => .inl (.inl z)⟩ f.2⟩
    | cons x r =>
      rw [hd] at f
      obtain ⟨hx, hr, hl⟩ := drop_cons hd
      obtain ⟨o, es', ea, f⟩ := f
      refine .inr ⟨jo.go i _ eh H hh s1.w R1 o hl, fun H => ∃ eh acc va, (i + 1) + (n - 1) = xs.length ∧ Step ehA HA eh H ∧ Rh K mg (fun a => Hd a ∨ a = D) eh H ∧ H D = some (.lst va) ∧ RpL K mg (fun a => Hd a ∨ a = D) eh H acc va ∧ comp2L g tt mi1 g1 tt1 te vs vs1 ok q (xs.drop (i + 1)) acc es eh,
        fun H' w => ⟨n - 1, by omega, w⟩, fun v H2 y => ?_⟩
      obtain ⟨x', hx', s2, R2, r2, kp⟩ := jo.yld i _ eh H v H2 hh s1.w R1 o hl y
      rw [hx] at hx'; cases hx'
      have eD2 := kp D _ eD
      have nD := (R1.hd D (.inr rfl)).2
      have Rs : Rl K mg (fun a => Hd a ∨ a = D) eh H2 es σ := RlA.hid hh (s1.trans s2) R2
      refine ⟨_, wipeE es vs, eh, x, es', Rs.wipe vs, r2, ea, fun σ3 R3 l3 s3 => ⟨?_, _, es', eh, xF, _, R3, .no, f, fun eh4 H4 b s4 R4 f4 => ?_⟩⟩
      · refine (wipe_same (σ := wipe σ vs) l3 fun i hi => s3 i fun z => hi (hv i z)).trans wipe_wipe
      · have e4 := s4.st D _ eD2 nD (fun _ z => nomatch z)
        cases b with
        | false => exact iteF ⟨eh4, acc, va, by omega, s1.trans (s2.trans s4), R4, e4.1, rA.step (s2.trans s4), by rw [hr]; exact f4⟩
        | true =>
          refine iteT ⟨_, es', eh4, xF, _, R3.step s4 R4, .no, f4, fun ehB HB ys ok1 J1 sB RB jo1 mB => ?_⟩
          have eB := sB.st D _ e4.1 e4.2 (fun _ z => nomatch z)
          have sAB := s1.trans (s2.trans (s4.trans sB))
          have R3B := (R3.step s4 R4).step sB RB
          refine ⟨fun j n1 H => ∃ eh acc va, j + n1 = ys.length ∧ StepW (fun a => Hd a ∨ a = D) ehB HB eh H ∧ Step ehA HA eh H ∧ Rl K mg (fun a => Hd a ∨ a = D) eh H es' σ3 ∧ H D = some (.lst va) ∧ RpL K mg (fun a => Hd a ∨ a = D) eh H acc va ∧
            comp2In g1 tt1 te vs1 ok1 (fun acc' eh3 => comp2L g tt mi1 g1 tt1 te vs vs1 ok q r acc' es eh3) (ys.drop j) acc es' eh, ⟨ys.length, ehB, acc, va, by omega, Step.refl.w, sAB, R3B, eB.1, rA.step (s2.trans (s4.trans sB)), mB⟩, ?_⟩
          rintro j n1 H ⟨eh6, acc6, va6, hn6, sB6, sA6, R6, eD6, rA6, f6⟩
          have nD6 := (R6.obj.hd D (.inr rfl)).2
          have hhB : ∀ a, (Hd a ∨ a = D) → (Hd a ∨ a = D) ∨ HB a = none := fun a z => .inl z
          cases hd6 : ys.drop j with
          | nil =>
            rw [hd6] at f6
            have : ys.length ≤ j := by simpa using hd6
            exact .inl ⟨jo1.stop j _ eh6 H hhB sB6 R6.obj f6.1 this, eh6, acc6, va6, by omega, sA6, R6.obj, eD6, rA6, by rw [hr]; exact f6.2⟩
          | cons x6 r6 =>
            rw [hd6] at f6
            obtain ⟨hx6, hr6, hl6⟩ := drop_cons hd6
            obtain ⟨o6, es6, ea6, f6⟩ := f6
            refine .inr ⟨jo1.go j _ eh6 H hhB sB6 R6.obj o6 hl6, fun H => ∃ eh acc va, (j + 1) + (n1 - 1) = ys.length ∧ StepW (fun a => Hd a ∨ a = D) ehB HB eh H ∧ Step ehA HA eh H ∧ Rl K mg (fun a => Hd a ∨ a = D) eh H es' σ3 ∧ H D = some (.lst va) ∧ RpL K mg (fun a => Hd a ∨ a = D) eh H acc va ∧
              comp2In g1 tt1 te vs1 ok1 (fun acc' eh3 => comp2L g tt mi1 g1 tt1 te vs vs1 ok q r acc' es eh3) (ys.drop (j + 1)) acc es' eh, fun H' w => ⟨n1 - 1, by omega, w⟩, fun v6 H7 y6 => ?_⟩
            obtain ⟨x6', hx6', s7, R7, r7, kp7⟩ := jo1.yld j _ eh6 H v6 H7 hhB sB6 R6.obj o6 hl6 y6
            rw [hx6] at hx6'; cases hx6'
            have eD7 := kp7 D _ eD6
            have Rs7 := R6.step s7 R7
            refine ⟨_, wipeE es' vs1, eh6, x6, es6, Rs7.wipe vs1, r7, ea6, fun σ8 R8 l8 s8 => ⟨?_, _, es6, eh6, xF, _, R8, .no, f6, fun eh9 H9 b9 s9 R9 f9 => ?_⟩⟩
            · refine (wipe_same (σ := wipe σ3 vs1) l8 fun i hi => s8 i fun z => hi (hv1 i z)).trans wipe_wipe
            · have e9 := s9.st D _ eD7 nD6 (fun _ z => nomatch z)
              cases b9 with
              | false => exact iteF ⟨eh9, acc6, va6, by omega, sB6.trans (s7.trans s9).w, sA6.trans (s7.trans s9), Rs7.step s9 R9, e9.1, rA6.step (s7.trans s9), by rw [hr6]; exact f9⟩
              | true =>
                refine iteT ⟨_, es6, eh9, xF, _, R8.step s9 R9, .no, f9, fun ehC HC yC vC sC RC rC ⟨hlC, fC⟩ => ?_⟩
                have eC := sC.st D _ e9.1 e9.2 (fun _ z => nomatch z)
                have sall := s7.trans (s9.trans sC)
                have RCw := RC.hw (.inr rfl) eC.1 (va6 ++ [vC])
                refine ⟨va6, eC.1, by rw [← rA6.length]; exact hlC, ehC, acc6 ++ [yC], va6 ++ [vC], by omega, ?_, (sA6.trans sall).over hD, ?_, upd_same, ?_, by rw [hr6]; exact fC⟩
                · exact sB6.trans (sall.w.trans ⟨fun a o h n _ m => ⟨by rw [upd_ne fun z => m (.inr z)]; exact h, n⟩, fun a xs h => by rw [upd_ne fun z => by subst z; rw [eC.1] at h; cases h]; exact h, fun a w u h => by rw [upd_ne fun z => by subst z; rw [eC.1] at h; cases h]; exact h⟩)
                · exact ⟨R6.len, fun i x e => let ⟨w, hw, qw⟩ := R6.loc i x e; ⟨w, hw, (qw.step sall).hw (.inr rfl) eC.1 _⟩, RCw⟩
                · exact RpL.hw (.inr rfl) eC.1 _ ((rA6.step sall).append (.one rC))⟩
end
section
variable {X : Cx} {E : XK} {elt tg iter tg1 iter1 : Expr} {ifs ifs1 : List Expr} {scope : Scope} {own : List (Str × Nat)} {pos : Pos} {mi mi1 : MI} {g g1 : Tg} {tt tt1 : MT} {te : ME}
theorem rts_nil : PTs X [] (UT X.K X.mw E tYesE) := ⟨fun pins s σ H Q I ⟨Hd, es, eh, xc, q, R, xo, m, k⟩ => pts_nil.run pins s σ H Q I (k eh H true .refl R.obj m)⟩
theorem rts_one {c : Expr} {mt : MT} (h : PT X c (UT X.K X.mw E mt)) : PTs X [c] (UT X.K X.mw E mt) := pts_one h
theorem re_comp (hc : X.calm = true) (hN : X.N.Nodup) (hi : PI X tg iter (UI X.K X.mw E mi)) (ok : BlkOk X.N X.env.scope scope own)
    (hg : ∀ (s : Shared) (H : Hp) (C : Addr) (cl : List (Str × Addr)) (fp : List Addr), PG (X.blk s H scope (compEnvC scope cl C X.env) fp) tg (UG X.K X.mw g)) (ht : ∀ (s : Shared) (H : Hp) (C : Addr) (cl : List (Str × Addr)) (fp : List Addr), PTs (X.blk s H scope (compEnvC scope cl C X.env) fp) ifs (UT X.K X.mw E0 tt))
    (he : ∀ (s : Shared) (H : Hp) (C : Addr) (cl : List (Str × Addr)) (fp : List Addr), PE (X.blk s H scope (compEnvC scope cl C X.env) fp) elt (U X.K X.mw E0 te)) (hv : ∀ i ∈ slots g, i ∈ own.map (·.2) := by decide) (hs : ∀ x, foldedSetIterable iter X.env x = pure x := by intro _; rfl) :
    PE X (.ListComp elt [⟨tg, iter, ifs, 0⟩] scope pos) (U X.K X.mw E (mComp mi g tt te (own.map (·.2)))) :=
  PE.imp (pe_lc hc hN hi ok hg ht he hs) (lc_lift hv)
theorem re_comp2 {vs1 : List Nat} (hc : X.calm = true) (hN : X.N.Nodup) (hi : PI X tg iter (UI X.K X.mw E mi)) (ok : BlkOk X.N X.env.scope scope own)
    (hg : ∀ (s : Shared) (H : Hp) (C : Addr) (cl : List (Str × Addr)) (fp : List Addr), PG (X.blk s H scope (compEnvC scope cl C X.env) fp) tg (UG X.K X.mw g)) (ht : ∀ (s : Shared) (H : Hp) (C : Addr) (cl : List (Str × Addr)) (fp : List Addr), PTs (X.blk s H scope (compEnvC scope cl C X.env) fp) ifs (UT X.K X.mw E0 tt))
    (hi1 : ∀ (s : Shared) (H : Hp) (C : Addr) (cl : List (Str × Addr)) (fp : List Addr), PI (X.blk s H scope (compEnvC scope cl C X.env) fp) tg1 iter1 (UI X.K X.mw E0 mi1))
    (hg1 : ∀ (s : Shared) (H : Hp) (C : Addr) (cl : List (Str × Addr)) (fp : List Addr), PG (X.blk s H scope (compEnvC scope cl C X.env) fp) tg1 (UG X.K X.mw g1)) (ht1 : ∀ (s : Shared) (H : Hp) (C : Addr) (cl : List (Str × Addr)) (fp : List Addr), PTs (X.blk s H scope (compEnvC scope cl C X.env) fp) ifs1 (UT X.K X.mw E0 tt1))
    (he : ∀ (s : Shared) (H : Hp) (C : Addr) (cl : List (Str × Addr)) (fp : List Addr), PE (X.blk s H scope (compEnvC scope cl C X.env) fp) elt (U X.K X.mw E0 te)) (hvo : ∀ i ∈ vs1, i ∈ own.map (·.2) := by decide) (hv : ∀ i ∈ slots g, i ∈ own.map (·.2) := by decide) (hv1 : ∀ i ∈ slots g1, i ∈ vs1 := by decide)
    (hs : ∀ x, foldedSetIterable iter X.env x = pure x := by intro _; rfl) (hs1 : ∀ env x, foldedSetIterable iter1 env x = pure x := by intro _ _; rfl) :
    PE X (.ListComp elt [⟨tg, iter, ifs, 0⟩, ⟨tg1, iter1, ifs1, 0⟩] scope pos) (U X.K X.mw E (mComp2 mi g tt mi1 g1 tt1 te (own.map (·.2)) vs1)) :=
  PE.imp (pe_lc2 hc hN hi ok hvo hg ht hi1 hg1 ht1 he hs hs1) (lc2_lift hv hv1)
theorem asg_lift {i : Nat} {t : TE} {m : ME} (h : ∀ σ H Q, U X.K X.mw E m σ H Q → t σ H Q) : ∀ D σ H, US X.K X.mw E (sSet i m) D σ H → tAsg t (L2.gName i) D σ H := fun D σ H ⟨Hd, es, eh, xc, d, R, xo, m, k1, k2, k3, k4⟩ =>
  h σ H _ ⟨Hd, es, eh, xc, _, R, xo, m, fun eh1 H1 x v s1 R1 r1 m1 => k1 _ eh1 _ H1 s1 ((R.step s1 R1).set r1) m1⟩
theorem rs_setComp {i : Nat} {y : Str} {py : Pos} {spos : Pos} (hc : X.calm = true) (hN : X.N.Nodup) (hsw : swapsWith (.ListComp elt [⟨tg, iter, ifs, 0⟩] scope pos) (some (.Name y py)) spos.line X.env = pure true) (hi : PI X tg iter (UI X.K X.mw E mi)) (ok : BlkOk X.N X.env.scope scope own)
    (hg : ∀ (s : Shared) (H : Hp) (C : Addr) (cl : List (Str × Addr)) (fp : List Addr), PG (X.blk s H scope (compEnvC scope cl C X.env) fp) tg (UG X.K X.mw g)) (ht : ∀ (s : Shared) (H : Hp) (C : Addr) (cl : List (Str × Addr)) (fp : List Addr), PTs (X.blk s H scope (compEnvC scope cl C X.env) fp) ifs (UT X.K X.mw E0 tt))
    (he : ∀ (s : Shared) (H : Hp) (C : Addr) (cl : List (Str × Addr)) (fp : List Addr), PE (X.blk s H scope (compEnvC scope cl C X.env) fp) elt (U X.K X.mw E0 te)) (hy : X.N[i]? = some y := by rfl) (hyl : X.env.scope.names.lookup y = some .local := by rfl)
    (hv : ∀ i ∈ slots g, i ∈ own.map (·.2) := by decide) (hs : ∀ x, foldedSetIterable iter X.env x = pure x := by intro _; rfl) :
    PS X (.Assign [.Name y py] (.ListComp elt [⟨tg, iter, ifs, 0⟩] scope pos) spos) (US X.K X.mw E (sSet i (mComp mi g tt te (own.map (·.2))))) :=
  PS.imp (ps_setLc hc hN hy hyl hsw hi ok hg ht he hs) (asg_lift (lc_lift hv))
theorem rs_setCompR {i : Nat} {y : Str} {py : Pos} {spos : Pos} (hc : X.calm = true) (hN : X.N.Nodup) (hsw : swapsWith (.ListComp elt [⟨tg, iter, ifs, 0⟩] scope pos) (some (.Name y py)) spos.line X.env = pure true) (hi : PI X tg iter (UI X.K X.mw E mi)) (ok : BlkOk X.N X.env.scope scope own)
    (hg : ∀ (s : Shared) (H : Hp) (C : Addr) (cl : List (Str × Addr)) (fp : List Addr), PG (X.blk s H scope (compEnvC scope cl C X.env) fp) tg (UG X.K X.mw g)) (ht : ∀ (s : Shared) (H : Hp) (C : Addr) (cl : List (Str × Addr)) (fp : List Addr), PTs (X.blk s H scope (compEnvC scope cl C X.env) fp) ifs (UT X.K X.mw E0 tt))
    (he : ∀ (s : Shared) (H : Hp) (C : Addr) (cl : List (Str × Addr)) (fp : List Addr), PE (X.blk s H scope (compEnvC scope cl C X.env) fp) elt (U X.K X.mw E0 te)) (hy : X.N[i]? = some y := by rfl) (hyl : X.env.scope.names.lookup y = some .local := by rfl)
    (hv : ∀ i ∈ slots g, i ∈ own.map (·.2) := by decide) (hs : ∀ x, foldedSetIterable iter X.env x = pure x := by intro _; rfl) :
    PS X (.Assign [.Name y py] (.ListComp elt [⟨tg, iter, ifs, 0⟩] scope pos) spos) (US X.K X.mw E (sSet i (mCompR mi g tt te (own.map (·.2))))) :=
  PS.imp (ps_setLc hc hN hy hyl hsw hi ok hg ht he hs) (asg_lift (lc_liftR hv))
end

/-! ### defs and their calls -/
abbrev FN := XC → List EV → Eh → KE → Prop
def fnOf (N : Nat) (ms : MS) : FN := fun xc xs eh q => ms xc { nx := fun _ eh => q .non eh, rt := q } (xs.map some ++ List.replicate (N - xs.length) none) eh
def spOf (K : PySem.W.Frag) (mg : MW) (n : Nat) (F : FN) : Sp := fun vs H Q E => ∃ Hd eh xs xc q, vs.length = n ∧ Rh K mg Hd eh H ∧ RpL K mg Hd eh H xs vs ∧ XOk K mg E Hd eh H xc ∧ F xc xs eh q ∧
  ∀ eh' H' x v, Step eh H eh' H' → Rh K mg Hd eh' H' → Rp K mg Hd eh' H' x v → q x eh' → Q v H'
def mCall (F : FN) (n : Nat) (dx : List EV) (t : MA) : ME := fun xc es eh q => t xc es eh fun xs eh1 => (xs ++ dx).length = n ∧ F xc (xs ++ dx) eh1 q
section
variable {K : PySem.W.Frag} {mg : MW} {E : XK}
theorem Rl.start {Hd eh H} {N : List Str} {xs : List EV} {vs : List V} (R : Rh K mg Hd eh H) (r : RpL K mg Hd eh H xs vs) : Rl K mg Hd eh H (xs.map some ++ List.replicate (N.length - xs.length) Option.none) (start N vs) := by
  refine ⟨by simp [L2.start, r.length], fun i x e => ?_, R⟩
  rw [List.getElem?_append] at e
  split at e
  · rename_i h
    rw [List.getElem?_map, Option.map_eq_some_iff] at e
    obtain ⟨y, hy, e⟩ := e
    cases e
    obtain ⟨v, hv, q⟩ := r.get hy
    refine ⟨v, ?_, q⟩
    unfold L2.start
    rw [List.getElem?_append_left (by rw [List.length_map, ← r.length]; simpa using h), List.getElem?_map, hv]
    rfl
  · rw [List.getElem?_replicate] at e
    split at e <;> cases e
theorem sp_start {N : List Str} {n : Nat} {ms : MS} {vs : List V} {H : Hp} {Q : VK} (h : spOf K mg n (fnOf N.length ms) vs H Q E) : US K mg E ms { nx := fun _ H' => Q .non H', rt := Q } (L2.start N vs) H := by
  obtain ⟨Hd, eh, xs, xc, q, hl, R, r, xo, m, k⟩ := h
  exact ⟨Hd, _, eh, xc, _, Rl.start R r, xo, m, fun es' eh' σ' H' s' R' m' => k eh' H' .non .non s' R'.obj rfl m', k, fun _ _ _ _ _ _ h => h.elim, fun _ _ _ _ _ _ h => h.elim⟩
end
section
variable {P : Program} {w : World} {K : PySem.W.Frag} {mg : Str → Option Value} {base : Heap} {x qual : Str} {params : Arguments} {body : List Stmt} {scope : Scope} {dvs : List V} {kws : List (Str × V)} {f : Addr} {fd : FuncData} {N ps : List Str} {k : Nat} {ms : MS}
/-- a def that lets no exception out -/
theorem fn_ok0 (F : FunD K x qual params body scope dvs kws f fd) (S : FnScope N ps scope)
    (h : ∀ (cdv : Value) (A : Around) (outer : List Env) (s : Shared) (H : Hp) (E : XK), RoomG k (A.deeper (envOfC qual scope s.heap.objs.size f cdv)) → PSs (cxOf CX0 P w K mg base N qual scope f cdv A outer s H E).nox body (US K ⟨mg, w⟩ E ms)) :
    FnG P w K mg base CX0 (k + 1) f fd ps (spOf K ⟨mg, w⟩ ps.length (fnOf N.length ms)) :=
  .of F S (fun vs H Q E h => h.choose_spec.choose_spec.choose_spec.choose_spec.choose_spec.1) fun cdv A outer s H vs Q E _ hr hsp => ⟨_, (h cdv A outer s H E hr).nox, sp_start hsp⟩
end
theorem pass_any {X : Cx} {E : XK} : Passes CX0 X E := fun _ _ _ _ _ _ _ h => h.elim
section
variable {X : Cx} {CX : CXT} {k np : Nat} {f C : Addr} {fd : FuncData} {ps : List Str} {F : FN} {dvs : List V} {ds : List Value} {dx : List EV} {E : XK} {x m : Str} {p pos apos : Pos} {e o : Expr} {es : List Expr} {ma : ME} {t : MA}
theorem call_lift (hdx : ∀ Hd eh H, RpL X.K X.mw Hd eh H dx dvs) : ∀ σ H Q, U X.K X.mw E (mCall F np dx t) σ H Q → tCall (spOf X.K X.mw np F) dvs E (UA X.K X.mw E t) σ H Q := fun σ H Q ⟨Hd, es, eh, xc, q, R, xo, m, kk⟩ =>
  ⟨Hd, es, eh, xc, _, R, xo, m, fun eh1 H1 xs vs s1 R1 r1 ⟨hl, m1⟩ => ⟨Hd, eh1, xs ++ dx, xc, q, by rw [← hl]; exact (r1.append (hdx Hd eh1 H1)).length.symm, R1, r1.append (hdx _ _ _), xo.step s1, m1, fun eh2 H2 x v s2 => kk eh2 H2 x v (s1.trans s2)⟩⟩
theorem re_call (G : FnG X.prog X.w X.K X.mg X.base CX k f fd ps (spOf X.K X.mw np F)) (hr : RoomG k X.A) (hg : Gl X x) (hm : X.mg x = some (.ref f)) (hk : PySem.W.keepIn X.K (.ref f) = true) (hb : Binds X.K fd ps ds) (hd : Vals dvs ds) (hdx : ∀ Hd eh H, RpL X.K X.mw Hd eh H dx dvs) (hx : Passes CX X E)
    (ha : PA X (e :: es) (UA X.K X.mw E t)) (hdb : (x == ("__debug__" : Str)) = false := by decide) (he : starEach (e :: es) X.env = (false, eval e X.env) :: starEach es X.env := by rfl) (hpl : (backTo pos (starEach es X.env)).any (·.1) = false := by rfl) :
    PE X (.Call (.Name x p) (e :: es) [] pos) (U X.K X.mw E (mCall F np dx t)) :=
  PE.imp (G.call_ hr hg hm hk hb hd (Passes.at hx) ha hdb he hpl) (call_lift hdx)
/-- o.m(..): o a frozen object or a reference -/
def insE (eh : Eh) : EV → Option (Str × List (Str × EV))
  | .obj C fs => some (C, fs)
  | .ref a => match eh a with | some (.ins C fs) => some (C, fs) | _ => none
  | _ => none
theorem ins_of {K mg Hd eh H} (R : Rh K mg Hd eh H) {x : EV} {v : V} {C : Str} {fs : List (Str × EV)} (r : Rp K mg Hd eh H x v) (h : insE eh x = some (C, fs)) : ∃ a c dx us, v = .ref a ∧ mg C = some (.ref c) ∧ H a = some (.ins c dx us) ∧ RpF K mg Hd eh H fs us := by
  cases x with
  | obj C' fs' => cases h; obtain ⟨a, c, dx, us, e, m, h, _, t⟩ := r; exact ⟨a, c, dx, us, e, m, h, t⟩
  | ref a =>
    cases r
    simp only [insE] at h
    cases e : eh a with
    | none => rw [e] at h; cases h
    | some o =>
      rw [e] at h
      cases o with
      | ins C' fs' => cases h; obtain ⟨c, dx, us, m, h, t⟩ := R.ob a _ e; exact ⟨a, c, dx, us, rfl, m, h, t⟩
      | _ => cases h
  | _ => cases h
def mMeth (cn : Str) (m : Str) (F : FN) (n : Nat) (dx : List EV) (ma : ME) (t : MA) : ME := fun xc es eh q => ma xc es eh fun x eh1 => ∃ fs, insE eh1 x = some (cn, fs) ∧ fs.lookup m = none ∧
  t xc es eh1 fun xs eh2 => (x :: (xs ++ dx)).length = n ∧ F xc (x :: (xs ++ dx)) eh2 q
theorem meth_lift {cn : Str} (hC : X.mg cn = some (.ref C)) (hdx : ∀ Hd eh H, RpL X.K X.mw Hd eh H dx dvs) : ∀ σ H Q, U X.K X.mw E (mMeth cn m F np dx ma t) σ H Q → tMeth C m (spOf X.K X.mw np F) dvs E (U X.K X.mw E ma) (UA X.K X.mw E t) σ H Q := fun σ H Q ⟨Hd, es, eh, xc, q, R, xo, mm, kk⟩ =>
  ⟨Hd, es, eh, xc, _, R, xo, mm, fun eh1 H1 x v s1 R1 r1 ⟨fs, hi, hl, m1⟩ => by
    obtain ⟨a, c, dx', us, rfl, hc, h, t⟩ := ins_of R1 r1 hi
    rw [show X.mw.m _ = _ from hC] at hc; cases hc
    exact ⟨a, dx', us, rfl, h, t.lookup_none hl, Hd, es, eh1, xc, _, R.step s1 R1, xo.step s1, m1, fun eh2 H2 xs vs s2 R2 r2 ⟨hn, m2⟩ =>
      ⟨Hd, eh2, x :: (xs ++ dx), xc, q, by rw [← hn]; exact (RpL.cons (r1.step s2) (r2.append (hdx Hd eh2 H2))).length.symm, R2, .cons (r1.step s2) (r2.append (hdx _ _ _)), (xo.step s1).step s2, m2, fun eh3 H3 z w s3 => kk eh3 H3 z w (s1.trans (s2.trans s3))⟩⟩⟩
theorem re_meth {cn : Str} {pl : Sem Bool} (hC : X.mg cn = some (.ref C)) (he : PE X o (U X.K X.mw E ma)) (c : Cls X.K C) (hm : Meth X.K C m f) (G : FnG X.prog X.w X.K X.mg X.base CX k f fd ps (spOf X.K X.mw np F)) (hr : RoomG k X.A) (hb : Binds X.K fd ps ds) (hd : Vals dvs ds) (hdx : ∀ Hd eh H, RpL X.K X.mw Hd eh H dx dvs) (hx : Passes CX X E) (ha : PA X (e :: es) (UA X.K X.mw E t))
    (hst : starEach (e :: es) X.env = (false, eval e X.env) :: starEach es X.env := by rfl) (hpl : (backTo pos (starEach es X.env)).any (·.1) = false := by rfl)
    (ht : eval (.Call (.Attribute o m apos) (e :: es) [] pos) X.env = (do
      let ov ← eval o X.env
      standAt apos.atName
      let (f, first) ← holding [ov] (getMethod ov m pl)
      callWith pos f first (backTo pos (starEach (e :: es) X.env)) (backToKw pos (keywordEach [] X.env))) := by rfl) :
    PE X (.Call (.Attribute o m apos) (e :: es) [] pos) (U X.K X.mw E (mMeth cn m F np dx ma t)) :=
  PE.imp (G.meth_ he c hm hr hb hd (Passes.at hx) ha hst hpl ⟨pl, ht⟩) (meth_lift hC hdx)
end
end VM

/-! VM6: built-ins by values: len, abs, min, max, sum, all, any, int, tuple, list, sorted; methods of lists; slices. -/
namespace VM
open PySem PySem.Spec PyProof.Rows L2

/-! ### calls of built-ins -/
def mCB (o : EOL) (t : MA) : ME := fun xc es eh q => t xc es eh fun xs eh1 => o xs eh1 q
section
variable {X : Cx} {E : XK} {x : Str} {p pos : Pos} {e : Expr} {es : List Expr} {t : MA} {id T : String} {o : EOL}
theorem cb_lift : ∀ σ H Q, U X.K X.mw E (mCB o t) σ H Q → tCB (UL X.K X.mw o) (UA X.K X.mw E t) σ H Q := fun σ H Q ⟨Hd, es, eh, xc, q, R, xo, m, k⟩ =>
  ⟨Hd, es, eh, xc, _, R, xo, m, fun eh1 H1 xs vs s1 R1 r1 m1 => ⟨Hd, eh1, xs, q, R1, r1, m1, fun eh2 H2 z w s2 => k eh2 H2 z w (s1.trans s2)⟩⟩
theorem re_cb (hc : CallR X (.builtin id) (UL X.K X.mw o)) (hg : Gl X x) (hm : X.mg x = none) (hv : bootBuiltins x = some (.builtin id)) (ha : PA X (e :: es) (UA X.K X.mw E t)) (hn : x ≠ "__name__" := by decide) (hdb : (x == ("__debug__" : Str)) = false := by decide)
    (he : starEach (e :: es) X.env = (false, eval e X.env) :: starEach es X.env := by rfl) (hpl : (backTo pos (starEach es X.env)).any (·.1) = false := by rfl) : PE X (.Call (.Name x p) (e :: es) [] pos) (U X.K X.mw E (mCB o t)) :=
  PE.imp (pe_callB hc hg hm hv ha hn hdb he hpl) cb_lift
theorem re_cty (hc : CallR X (.type T) (UL X.K X.mw o)) (hg : Gl X x) (hm : X.mg x = none) (hv : bootBuiltins x = some (.type T)) (ha : PA X (e :: es) (UA X.K X.mw E t)) (hn : x ≠ "__name__" := by decide) (hdb : (x == ("__debug__" : Str)) = false := by decide)
    (he : starEach (e :: es) X.env = (false, eval e X.env) :: starEach es X.env := by rfl) (hpl : (backTo pos (starEach es X.env)).any (·.1) = false := by rfl) : PE X (.Call (.Name x p) (e :: es) [] pos) (U X.K X.mw E (mCB o t)) :=
  PE.imp (pe_callTy hc hg hm hv ha hn hdb he hpl) cb_lift
end
theorem one_of {K mg Hd eh H} {x : EV} {vs : List V} (r : RpL K mg Hd eh H [x] vs) : ∃ v, vs = [v] ∧ Rp K mg Hd eh H x v := by
  obtain ⟨v, r', rfl, h, t⟩ := r; cases t; exact ⟨v, rfl, h⟩
theorem two_of {K mg Hd eh H} {x y : EV} {vs : List V} (r : RpL K mg Hd eh H [x, y] vs) : ∃ v u, vs = [v, u] ∧ Rp K mg Hd eh H x v ∧ Rp K mg Hd eh H y u := by
  obtain ⟨v, r', rfl, h, t⟩ := r; obtain ⟨u, rfl, h'⟩ := one_of t; exact ⟨v, u, rfl, h, h'⟩
def bLen : EOL := fun xs eh q => match xs with
  | [.str z] => z.length ≤ sizeLine ∧ q (.int z.length) eh
  | [x] => (∃ ys, seqE eh x = some ys ∧ q (.int ys.length) eh) ∨ ∃ kvs, dctE eh x = some kvs ∧ q (.int kvs.length) eh
  | _ => False
section
variable {X : Cx}
theorem cb_len : CallR X (.builtin "len") (UL X.K X.mw bLen) := by
  intro pins s σ H vs us Q I r ⟨Hd, eh, xs, q, R, rx, m, k⟩
  unfold bLen at m
  split at m
  · obtain ⟨v, rfl, h⟩ := one_of rx
    cases h
    exact call_len pins s σ H _ us Q I r ⟨.str _, _, rfl, ⟨m.1, rfl⟩, k eh H (.int _) (.int _) .refl R rfl m.2⟩
  · obtain ⟨v, rfl, h⟩ := one_of rx
    rcases m with ⟨ys, hy, m⟩ | ⟨kvs, hk, m⟩
    · obtain ⟨a, ws, rfl, hs, rr⟩ := seq_of R h hy
      rw [rr.length] at m
      exact call_len_seq pins s σ H _ us Q I r ⟨a, ws, rfl, hs, k eh H (.int _) (.int _) .refl R rfl m⟩
    · obtain ⟨a, ws, rfl, hs, rr⟩ := dct_of R h hk
      rw [rr.length] at m
      rw [Vals.ref1 r]
      exact d_len I hs fun t s' I' => ⟨.int _, H, I', ⟨_, rfl⟩, k eh H (.int _) (.int _) .refl R rfl m⟩
  · exact m.elim
def bAbs : EOL := fun xs eh q => match xs with
  | [.int i] => q (.int (if i < 0 then -i else i)) eh
  | _ => False
theorem cb_abs : CallR X (.builtin "abs") (UL X.K X.mw bAbs) := CallR.imp call_abs fun vs H Q ⟨Hd, eh, xs, q, R, rx, m, k⟩ => by
  unfold bAbs at m
  split at m
  · obtain ⟨v, rfl, h⟩ := one_of rx
    cases h
    exact ⟨_, rfl, k eh H (.int _) (.int _) .refl R rfl m⟩
  · exact m.elim
/-- the ints of a sequence -/
def intsE : List EV → Option (List Int)
  | [] => some []
  | .int i :: r => (intsE r).map (i :: ·)
  | _ :: _ => none
theorem intsE_of : ∀ {xs : List EV} {ns : List Int}, intsE xs = some ns → xs = ns.map .int
  | [], _, h => by cases h; rfl
  | x :: r, ns, h => by
    cases x with
    | int i =>
      simp only [intsE, Option.map_eq_some_iff] at h
      obtain ⟨ms, h, rfl⟩ := h
      rw [intsE_of h]; rfl
    | _ => cases h
theorem intsE_map (ns : List Int) : intsE (ns.map .int) = some ns := by
  induction ns with
  | nil => rfl
  | cons n ns ih => simp [intsE, ih]
def leastI : Int → List Int → Int
  | a, [] => a
  | a, b :: r => leastI (if b < a then b else a) r
def mostI : Int → List Int → Int
  | a, [] => a
  | a, b :: r => mostI (if a < b then b else a) r
theorem leastI_le : ∀ (r : List Int) (a : Int), leastI a r ≤ a ∧ ∀ b ∈ r, leastI a r ≤ b
  | [], a => ⟨Int.le_refl _, by simp⟩
  | b :: r, a => by
    obtain ⟨h1, h2⟩ := leastI_le r (if b < a then b else a)
    simp only [leastI]
    refine ⟨?_, fun c hc => ?_⟩
    · split at h1 <;> split <;> omega
    · rcases List.mem_cons.mp hc with rfl | hc
      · split at h1 <;> split <;> omega
      · exact h2 c hc
theorem leastI_mem : ∀ (r : List Int) (a : Int), leastI a r ∈ a :: r
  | [], a => by simp [leastI]
  | b :: r, a => by
    simp only [leastI]
    have := leastI_mem r (if b < a then b else a)
    split at this <;> split <;> first | omega | (simp at this ⊢; rcases this with h | h <;> simp [h])
theorem leastI_eq {a : Int} {r : List Int} {m : Int} (h1 : m ∈ a :: r) (h2 : ∀ b ∈ a :: r, m ≤ b) : m = leastI a r := by
  have := leastI_le r a
  have h3 := h2 _ (leastI_mem r a)
  rcases List.mem_cons.mp h1 with rfl | h
  · omega
  · have := this.2 _ h; omega
theorem mostI_le : ∀ (r : List Int) (a : Int), a ≤ mostI a r ∧ ∀ b ∈ r, b ≤ mostI a r
  | [], a => ⟨Int.le_refl _, by simp⟩
  | b :: r, a => by
    obtain ⟨h1, h2⟩ := mostI_le r (if a < b then b else a)
    simp only [mostI]
    refine ⟨?_, fun c hc => ?_⟩
    · split at h1 <;> split <;> omega
    · rcases List.mem_cons.mp hc with rfl | hc
      · split at h1 <;> split <;> omega
      · exact h2 c hc
theorem mostI_mem : ∀ (r : List Int) (a : Int), mostI a r ∈ a :: r
  | [], a => by simp [mostI]
  | b :: r, a => by
    simp only [mostI]
    have := mostI_mem r (if a < b then b else a)
    split at this <;> split <;> first | omega | (simp at this ⊢; rcases this with h | h <;> simp [h])
theorem mostI_eq {a : Int} {r : List Int} {m : Int} (h1 : m ∈ a :: r) (h2 : ∀ b ∈ a :: r, b ≤ m) : m = mostI a r := by
  have := mostI_le r a
  have h3 := h2 _ (mostI_mem r a)
  rcases List.mem_cons.mp h1 with rfl | h
  · omega
  · have := this.2 _ h; omega
def bMin : EOL := fun xs eh q => match xs with
  | [.int i, .int j] => q (.int (if j < i then j else i)) eh
  | [x] => ∃ ys n r, seqE eh x = some ys ∧ intsE ys = some (n :: r) ∧ q (.int (leastI n r)) eh
  | _ => False
def bMax : EOL := fun xs eh q => match xs with
  | [.int i, .int j] => q (.int (if i < j then j else i)) eh
  | [x] => ∃ ys n r, seqE eh x = some ys ∧ intsE ys = some (n :: r) ∧ q (.int (mostI n r)) eh
  | _ => False
theorem minOf_mem {a : Int} {r : List Int} : W.minOf a r ∈ a :: r ∧ ∀ b ∈ a :: r, W.minOf a r ≤ b := by
  have key : ∀ (r : List Int) (a : Int), W.minOf a r = leastI a r := by
    intro r
    induction r with
    | nil => intro a; rfl
    | cons b r ih =>
      intro a
      show W.minOf (if W.DatumOrd.lt b a = true then b else a) r = _
      rw [ih]
      simp only [leastI]
      congr 1
      show (if (decide (b < a)) = true then b else a) = _
      simp
  rw [key]
  exact ⟨leastI_mem r a, fun b hb => by
    rcases List.mem_cons.mp hb with rfl | hb
    · exact (leastI_le r _).1
    · exact (leastI_le r a).2 b hb⟩
theorem maxOf_mem {a : Int} {r : List Int} : W.maxOf a r ∈ a :: r ∧ ∀ b ∈ a :: r, b ≤ W.maxOf a r := by
  have key : ∀ (r : List Int) (a : Int), W.maxOf a r = mostI a r := by
    intro r
    induction r with
    | nil => intro a; rfl
    | cons b r ih =>
      intro a
      show W.maxOf (if W.DatumOrd.lt a b = true then b else a) r = _
      rw [ih]
      simp only [mostI]
      congr 1
      show (if (decide (a < b)) = true then b else a) = _
      simp
  rw [key]
  exact ⟨mostI_mem r a, fun b hb => by
    rcases List.mem_cons.mp hb with rfl | hb
    · exact (mostI_le r _).1
    · exact (mostI_le r a).2 b hb⟩
theorem cb_min {k : Nat} (hc : X.calm = true) (hr : RoomG k X.A) : CallR X (.builtin "min") (UL X.K X.mw bMin) := by
  have hu := hr.units
  intro pins s σ H vs us Q I r ⟨Hd, eh, xs, q, R, rx, m, k⟩
  unfold bMin at m
  split at m
  · obtain ⟨v, u, rfl, h, h'⟩ := two_of rx
    cases h; cases h'
    exact call_min2 hc pins s σ H _ us Q I r ⟨_, _, rfl, k eh H (.int _) (.int _) .refl R rfl m⟩
  · obtain ⟨v, rfl, h⟩ := one_of rx
    obtain ⟨ys, n, ns, hy, hn, m⟩ := m
    obtain ⟨a, ws, rfl, hs, rr⟩ := seq_of R h hy
    rw [intsE_of hn] at rr
    have ew := rr.ints
    subst ew
    rcases hs with hs | hs
    · exact cr_min hc pins s σ H _ us Q I r ⟨a, n :: ns, rfl, hs, by simp, fun z h1 h2 => by rw [leastI_eq h1 h2]; exact k eh H (.int _) (.int _) .refl R rfl m⟩
    · obtain ⟨its, rv, ht, _⟩ := I.tuple hs
      rw [Vals.ref1 r]
      have ri := rv.ints
      refine W.min_tuple_datum (α := Int) (x := n) (xs := ns) (I.ok.hd hc) (show s.heap.IsTuple a its.toArray from ht) (by simpa using W.HoldAll.of_ints ri) (by show X.A.units + 1 + 0 < cLine; omega) fun i v h' tk hv hh hk => ?_
      obtain ⟨t, rfl⟩ := W.int_of_holds hh
      refine ⟨.int (W.minOf n ns), H, I.kept hk, ⟨_, rfl⟩, ?_⟩
      rw [leastI_eq minOf_mem.1 minOf_mem.2]
      exact k eh H (.int _) (.int _) .refl R rfl m
  · exact m.elim
theorem cb_max {k : Nat} (hc : X.calm = true) (hr : RoomG k X.A) : CallR X (.builtin "max") (UL X.K X.mw bMax) := by
  have hu := hr.units
  intro pins s σ H vs us Q I r ⟨Hd, eh, xs, q, R, rx, m, k⟩
  unfold bMax at m
  split at m
  · obtain ⟨v, u, rfl, h, h'⟩ := two_of rx
    cases h; cases h'
    exact call_max2 hc pins s σ H _ us Q I r ⟨_, _, rfl, k eh H (.int _) (.int _) .refl R rfl m⟩
  · obtain ⟨v, rfl, h⟩ := one_of rx
    obtain ⟨ys, n, ns, hy, hn, m⟩ := m
    obtain ⟨a, ws, rfl, hs, rr⟩ := seq_of R h hy
    rw [intsE_of hn] at rr
    have ew := rr.ints
    subst ew
    rcases hs with hs | hs
    · exact cr_max hc pins s σ H _ us Q I r ⟨a, n :: ns, rfl, hs, by simp, fun z h1 h2 => by rw [mostI_eq h1 h2]; exact k eh H (.int _) (.int _) .refl R rfl m⟩
    · obtain ⟨its, rv, ht, _⟩ := I.tuple hs
      rw [Vals.ref1 r]
      have ri := rv.ints
      refine W.max_tuple_datum (α := Int) (x := n) (xs := ns) (I.ok.hd hc) (show s.heap.IsTuple a its.toArray from ht) (by simpa using W.HoldAll.of_ints ri) (by show X.A.units + 1 + 0 < cLine; omega) fun i v h' tk hv hh hk => ?_
      obtain ⟨t, rfl⟩ := W.int_of_holds hh
      refine ⟨.int (W.maxOf n ns), H, I.kept hk, ⟨_, rfl⟩, ?_⟩
      rw [mostI_eq maxOf_mem.1 maxOf_mem.2]
      exact k eh H (.int _) (.int _) .refl R rfl m
  · exact m.elim
def bSum : EOL := fun xs eh q => match xs with
  | [x] => ∃ ys ns, lstE eh x = some ys ∧ intsE ys = some ns ∧ q (.int ns.sum) eh
  | _ => False
theorem cb_sum (hc : X.calm = true) : CallR X (.builtin "sum") (UL X.K X.mw bSum) := CallR.imp (cr_sum hc) fun vs H Q ⟨Hd, eh, xs, q, R, rx, m, k⟩ => by
  unfold bSum at m
  split at m
  · obtain ⟨v, rfl, h⟩ := one_of rx
    obtain ⟨ys, ns, hy, hn, m⟩ := m
    obtain ⟨a, ws, rfl, hs, rr⟩ := lst_of R h hy
    rw [intsE_of hn] at rr
    have ew := rr.ints
    subst ew
    exact ⟨a, ns, rfl, .inl (.inl hs), k eh H (.int _) (.int _) .refl R rfl m⟩
  · exact m.elim
def boolsE : List EV → Option (List Bool)
  | [] => some []
  | .bl i :: r => (boolsE r).map (i :: ·)
  | _ :: _ => none
theorem boolsE_of : ∀ {xs : List EV} {ns : List Bool}, boolsE xs = some ns → xs = ns.map .bl
  | [], _, h => by cases h; rfl
  | x :: r, ns, h => by
    cases x with
    | bl i =>
      simp only [boolsE, Option.map_eq_some_iff] at h
      obtain ⟨ms, h, rfl⟩ := h
      rw [boolsE_of h]; rfl
    | _ => cases h
theorem boolsE_map (ns : List Bool) : boolsE (ns.map .bl) = some ns := by
  induction ns with
  | nil => rfl
  | cons n ns ih => simp [boolsE, ih]
def bAll : EOL := fun xs eh q => match xs with
  | [x] => ∃ ys ns, lstE eh x = some ys ∧ boolsE ys = some ns ∧ q (.bl (ns.all id)) eh
  | _ => False
theorem cb_all (hc : X.calm = true) : CallR X (.builtin "all") (UL X.K X.mw bAll) := CallR.imp (cr_all hc) fun vs H Q ⟨Hd, eh, xs, q, R, rx, m, k⟩ => by
  unfold bAll at m
  split at m
  · obtain ⟨v, rfl, h⟩ := one_of rx
    obtain ⟨ys, ns, hy, hn, m⟩ := m
    obtain ⟨a, ws, rfl, hs, rr⟩ := lst_of R h hy
    rw [boolsE_of hn] at rr
    have ew := rr.bools
    subst ew
    exact ⟨a, ns, rfl, .inl (.inl hs), k eh H (.bl _) (.bl _) .refl R rfl m⟩
  · exact m.elim
def bInt : EOL := fun xs eh q => match xs with
  | [.int i] => q (.int i) eh
  | [.bl b] => q (.int (if b then 1 else 0)) eh
  | _ => False
theorem cb_int : CallR X (.type "int") (UL X.K X.mw bInt) := CallR.imp call_int1 fun vs H Q ⟨Hd, eh, xs, q, R, rx, m, k⟩ => by
  unfold bInt at m
  split at m
  · obtain ⟨v, rfl, h⟩ := one_of rx
    cases h
    exact .inl ⟨_, rfl, k eh H (.int _) (.int _) .refl R rfl m⟩
  · obtain ⟨v, rfl, h⟩ := one_of rx
    cases h
    exact .inr ⟨_, rfl, k eh H (.int _) (.int _) .refl R rfl m⟩
  · exact m.elim
/-- tuple(x); list(x), frozen or explicit -/
def bTuple : EOL := fun xs eh q => match xs with
  | [.tup ys] => q (.tup ys) eh
  | [x] => ∃ ys, seqE eh x = some ys ∧ q (.tup ys) eh
  | _ => False
theorem cb_tuple : CallR X (.type "tuple") (UL X.K X.mw bTuple) := CallR.imp call_tuple_of fun vs H Q ⟨Hd, eh, xs, q, R, rx, m, k⟩ => by
  have key : ∀ {x : EV} {ys : List EV}, RpL X.K X.mw Hd eh H [x] vs → seqE eh x = some ys → q (.tup ys) eh → ∃ p ys, vs = [.ref p] ∧ ((SqL X.K H p ys ∧ ∀ l, H l = none → Q (.ref l) (upd H l (.tup ys))) ∨ (SqT X.K H p ys ∧ Q (.ref p) H)) := fun {x ys} rx hy m => by
    obtain ⟨v, rfl, h⟩ := one_of rx
    obtain ⟨a, ws, rfl, hs, rr⟩ := seq_of R h hy
    refine ⟨a, ws, rfl, ?_⟩
    rcases hs with hs | hs
    · exact .inl ⟨hs, fun l hl => k eh _ (.tup ys) (.ref l) (.newF hl) (R.newF hl) ⟨l, ws, rfl, .inl (.inl upd_same), rr.step (.newF hl)⟩ m⟩
    · exact .inr ⟨hs, k eh H (.tup ys) (.ref a) .refl R ⟨a, ws, rfl, hs, rr⟩ m⟩
  unfold bTuple at m
  split at m
  · exact key rx rfl m
  · obtain ⟨ys, hy, m⟩ := m; exact key rx hy m
  · exact m.elim
def bList : EOL := fun xs eh q => match xs with
  | [x] => ∃ ys, seqE eh x = some ys ∧ q (.lst ys) eh
  | _ => False
theorem cb_list : CallR X (.type "list") (UL X.K X.mw bList) := CallR.imp call_list_of fun vs H Q ⟨Hd, eh, xs, q, R, rx, m, k⟩ => by
  unfold bList at m
  split at m
  · obtain ⟨ys, hy, m⟩ := m
    obtain ⟨v, rfl, h⟩ := one_of rx
    obtain ⟨a, ws, rfl, hs, rr⟩ := seq_of R h hy
    exact ⟨a, ws, rfl, hs, fun l hl => k eh _ (.lst ys) (.ref l) (.newF hl) (R.newF hl) ⟨l, ws, rfl, upd_same, ⟨R.fresh hl, R.notHid hl⟩, rr.step (.newF hl)⟩ m⟩
  · exact m.elim
end

/-! ### methods of lists, texts, dicts -/
def isLst (eh : Eh) (x : EV) : Prop := ∃ xs, lstE eh x = some xs
theorem isLst_ty {K mg Hd eh H x v} (R : Rh K mg Hd eh H) (r : Rp K mg Hd eh H x v) (h : isLst eh x) : tyV K "list" v H := by
  obtain ⟨xs, h⟩ := h
  obtain ⟨a, vs, rfl, e, _⟩ := lst_of R r h
  exact .inl ⟨rfl, vs, .inl (.inl e)⟩
def mBM (c : Eh → EV → Prop) (o : EV → EOL) (ma : ME) (t : MA) : ME := fun xc es eh q => ma xc es eh fun x eh1 => c eh1 x ∧ t xc es eh1 fun xs eh2 => o x xs eh2 q
section
variable {X : Cx} {E : XK} {o e : Expr} {es : List Expr} {ma : ME} {t : MA} {name : Str} {apos cpos : Pos} {T id : String} {r : EV → EOL} {c : Eh → EV → Prop}
theorem re_bm (pa : PlainAttrs T) (slot : Slot T name id) (hty : typeOf (.builtin id) = pure (.type "method_descriptor")) (hm : MtR X id (UM X.K X.mw r)) (hc : ∀ {Hd eh H x v}, Rh X.K X.mw Hd eh H → Rp X.K X.mw Hd eh H x v → c eh x → tyV X.K T v H)
    (ho : PE X o (U X.K X.mw E ma)) (ha : PA X (e :: es) (UA X.K X.mw E t))
    (hbase : attributeBase o name X.env (eval o X.env) = eval o X.env := by rfl)
    (hfew : ((backTo cpos (starEach (e :: es) X.env)).all (fun x => !x.1) && (backToKw cpos (keywordEach [] X.env)).all (fun x => x.1.isSome)
      && decide ((e :: es).length + ([] : List Keyword).length + (if ([] : List Keyword).isEmpty then 0 else 1) < 30)) = true := by rfl)
    (hline : (apos.endLine == cpos.line) = true := by rfl) (hs : starEach (e :: es) X.env = (false, eval e X.env) :: starEach es X.env := by rfl) (hplain : (backTo cpos (starEach es X.env)).any (·.1) = false := by rfl) :
    PE X (.Call (.Attribute o name apos) (e :: es) [] cpos) (U X.K X.mw E (mBM c r ma t)) :=
  PE.imp (pe_bm pa slot hty hm ho ha hbase hfew hline hs hplain) fun σ H Q ⟨Hd, es, eh, xc, q, R, xo, m, k⟩ => ⟨Hd, es, eh, xc, _, R, xo, m, fun eh1 H1 x v s1 R1 r1 ⟨hx, m1⟩ => ⟨hc R1 r1 hx, Hd, es, eh1, xc, _, R.step s1 R1, xo.step s1, m1, fun eh2 H2 xs vs s2 R2 r2 m2 =>
    ⟨Hd, eh2, x, xs, q, R2, r1.step s2, r2, m2, fun eh3 H3 z w s3 => k eh3 H3 z w (s1.trans (s2.trans s3))⟩⟩⟩
theorem re_bm0 (pa : PlainAttrs T) (slot : Slot T name id) (hty : typeOf (.builtin id) = pure (.type "method_descriptor")) (hm : MtR X id (UM X.K X.mw r)) (hc : ∀ {Hd eh H x v}, Rh X.K X.mw Hd eh H → Rp X.K X.mw Hd eh H x v → c eh x → tyV X.K T v H)
    (ho : PE X o (U X.K X.mw E ma)) (hbase : attributeBase o name X.env (eval o X.env) = eval o X.env := by rfl) (hline : (apos.endLine == cpos.line) = true := by rfl) : PE X (.Call (.Attribute o name apos) [] [] cpos) (U X.K X.mw E (mBM c r ma aNil)) :=
  PE.imp (pe_bm0 pa slot hty hm ho hbase hline) fun σ H Q ⟨Hd, es, eh, xc, q, R, xo, m, k⟩ => ⟨Hd, es, eh, xc, _, R, xo, m, fun eh1 H1 x v s1 R1 r1 ⟨hx, m1⟩ => ⟨hc R1 r1 hx,
    Hd, eh1, x, [], q, R1, r1, .nil, m1, fun eh3 H3 z w s3 => k eh3 H3 z w (s1.trans s3)⟩⟩
def oAppend : EV → EOL := fun x xs eh q => match x, xs with
  | .ref a, [y] => ∃ ys, eh a = some (.lst ys) ∧ ys.length < sizeLine ∧ q .non (eupd eh a (some (.lst (ys ++ [y]))))
  | _, _ => False
theorem refl_lst {K mg Hd eh H} {a : Addr} {xs : List EV} (R : Rh K mg Hd eh H) (h : eh a = some (.lst xs)) : ∃ vs, H a = some (.lst vs) ∧ RpL K mg Hd eh H xs vs := R.ob a _ h
theorem write_lst {K mg Hd eh H} {a : Addr} {xs ys : List EV} {vs : List V} (R : Rh K mg Hd eh H) (h : eh a = some (.lst xs)) (r : RpL K mg Hd eh H ys vs) : Step eh H (eupd eh a (some (.lst ys))) (upd H a (.lst vs)) ∧ Rh K mg Hd (eupd eh a (some (.lst ys))) (upd H a (.lst vs)) :=
  ⟨.write R h, R.write h ⟨vs, upd_same, r.step (.write R h)⟩⟩
theorem mt_append_e : MtR X "list.append" (UM X.K X.mw oAppend) := by
  intro pins s σ H v vs u us Q I r1 r2 ⟨Hd, eh, x, xs, q, R, rx, rxs, m, k⟩
  unfold oAppend at m
  split at m
  · cases rx
    obtain ⟨w, rfl, rw'⟩ := one_of rxs
    obtain ⟨ys, he, hl, m⟩ := m
    obtain ⟨vs, hv, rv⟩ := refl_lst R he
    obtain ⟨st, R'⟩ := write_lst R he (rv.append (.one rw'))
    exact mt_append pins s σ H _ _ u us Q I r1 r2 ⟨_, vs, w, rfl, rfl, hv, by rw [← rv.length]; exact hl, k _ _ .non .non st R' rfl m⟩
  · exact m.elim
def oPop : EV → EOL := fun x xs eh q => match x, xs with
  | .ref a, [] => ∃ ys y, eh a = some (.lst (ys ++ [y])) ∧ q y (eupd eh a (some (.lst ys)))
  | .ref a, [.int i] => ∃ ys j y, eh a = some (.lst ys) ∧ -(2 ^ 63) ≤ i ∧ i < 2 ^ 63 ∧ ixN ys.length i = some j ∧ ys[j]? = some y ∧ q y (eupd eh a (some (.lst (ys.eraseIdx j))))
  | _, _ => False
theorem mt_pop_e : MtR X "list.pop" (UM X.K X.mw oPop) := by
  intro pins s σ H v vs u us Q I r1 r2 ⟨Hd, eh, x, xs, q, R, rx, rxs, m, k⟩
  unfold oPop at m
  split at m
  · cases rx; cases rxs
    obtain ⟨ys, y, he, m⟩ := m
    obtain ⟨vs, hv, rv⟩ := refl_lst R he
    obtain ⟨w, hw, rw'⟩ := rv.get (i := ys.length) (x := y) (by simp)
    have hl := rv.length
    simp at hl
    have rd := rv.dropLast
    rw [List.dropLast_concat] at rd
    obtain ⟨st, R'⟩ := write_lst R he rd
    exact mt_pop pins s σ H _ _ u us Q I r1 r2 ⟨_, vs, w, rfl, rfl, hv, by rw [← hl]; exact hw, k _ _ y w st R' (rw'.step st) m⟩
  · cases rx
    obtain ⟨w, rfl, rw'⟩ := one_of rxs
    cases rw'
    obtain ⟨ys, j, y, he, h1, h2, h3, h4, m⟩ := m
    obtain ⟨vs, hv, rv⟩ := refl_lst R he
    obtain ⟨w, hw, rw'⟩ := rv.get h4
    obtain ⟨st, R'⟩ := write_lst R he (rv.eraseIdx j)
    exact mt_popAt pins s σ H _ _ u us Q I r1 r2 ⟨_, vs, _, j, w, rfl, rfl, hv, h1, h2, by rw [← rv.length]; exact (ixN_seq h3).1, hw, k _ _ y w st R' (rw'.step st) m⟩
  · exact m.elim
def oExtend : EV → EOL := fun x xs eh q => match x, xs with
  | .ref a, [y] => ∃ ys zs, eh a = some (.lst ys) ∧ lstE eh y = some zs ∧ ys.length + zs.length ≤ sizeLine ∧ q .non (eupd eh a (some (.lst (ys ++ zs))))
  | _, _ => False
theorem mt_extend_e : MtR X "list.extend" (UM X.K X.mw oExtend) := by
  intro pins s σ H v vs u us Q I r1 r2 ⟨Hd, eh, x, xs, q, R, rx, rxs, m, k⟩
  unfold oExtend at m
  split at m
  · cases rx
    obtain ⟨w, rfl, rw'⟩ := one_of rxs
    obtain ⟨ys, zs, he, hz, hl, m⟩ := m
    obtain ⟨vs, hv, rv⟩ := refl_lst R he
    obtain ⟨b, ws, rfl, hb, rb⟩ := lst_of R rw' hz
    obtain ⟨st, R'⟩ := write_lst R he (rv.append rb)
    exact mt_extend pins s σ H _ _ u us Q I r1 r2 ⟨_, b, vs, ws, rfl, rfl, hv, hb, by rw [← rv.length, ← rb.length]; exact hl, k _ _ .non .non st R' rfl m⟩
  · exact m.elim
/-! ### slices of lists, tuples, texts -/
def mNo : XC → Es → Eh → (Option Int → Eh → Prop) → Prop := fun _ _ eh q => q none eh
def mPt (m : ME) : XC → Es → Eh → (Option Int → Eh → Prop) → Prop := fun xc es eh q => m xc es eh fun x eh1 => match x with | .int i => q (some i) eh1 | _ => False
def UO (K : PySem.W.Frag) (mg : MW) (E : XK) (m : XC → Es → Eh → (Option Int → Eh → Prop) → Prop) : TO := fun σ H Q => ∃ Hd es eh xc q, Rl K mg Hd eh H es σ ∧ XOk K mg E Hd eh H xc ∧ m xc es eh q ∧
  ∀ eh' H' b, Step eh H eh' H' → Rh K mg Hd eh' H' → q b eh' → Q b H'
theorem PO.imp {X : Cx} {e : Option Expr} {t t' : TO} (h : PO X e t) (i : ∀ σ H Q, t' σ H Q → t σ H Q) : PO X e t' := ⟨fun pins s σ H Q I w => h.run pins s σ H Q I (i σ H Q w)⟩
theorem ro_no : PO X none (UO X.K X.mw E mNo) := PO.imp po_none fun σ H Q ⟨Hd, es, eh, xc, q, R, xo, m, k⟩ => k eh H none .refl R.obj m
theorem ro_some (h : PE X e (U X.K X.mw E ma)) : PO X (some e) (UO X.K X.mw E (mPt ma)) := PO.imp (po_some h) fun σ H Q ⟨Hd, es, eh, xc, q, R, xo, m, k⟩ => ⟨Hd, es, eh, xc, _, R, xo, m, fun eh1 H1 x v s1 R1 r1 m1 => by
  cases x with
  | int i => cases r1; exact ⟨i, rfl, k eh1 H1 (some i) s1 R1 m1⟩
  | _ => exact m1.elim⟩
def cutE (xs : List EV) (lo hi : Option Int) : List EV := (xs.drop (HT.sIx xs.length 0 lo)).take (HT.sIx xs.length xs.length hi - HT.sIx xs.length 0 lo)
abbrev EOS := EV → Option Int → Option Int → Eh → KE → Prop
def USl (K : PySem.W.Frag) (mg : MW) (o : EOS) : V → Option Int → Option Int → Hp → VK → Prop := fun v lo hi H Q => ∃ Hd eh x q, Rh K mg Hd eh H ∧ Rp K mg Hd eh H x v ∧ o x lo hi eh q ∧
  ∀ eh' H' z w, Step eh H eh' H' → Rh K mg Hd eh' H' → Rp K mg Hd eh' H' z w → q z eh' → Q w H'
def mSl (o : EOS) (ma : ME) (lo hi : XC → Es → Eh → (Option Int → Eh → Prop) → Prop) : ME := fun xc es eh q => ma xc es eh fun x eh1 => lo xc es eh1 fun l eh2 => hi xc es eh2 fun h eh3 => o x l h eh3 q
theorem re_slice {lo hi : Option Expr} {ml mh} {os : EOS} {pos p2 : Pos} (hr : SlR X (USl X.K X.mw os)) (he : PE X e (U X.K X.mw E ma)) (hl : PO X lo (UO X.K X.mw E ml)) (hu : PO X hi (UO X.K X.mw E mh)) : PE X (.Subscript e (.Slice lo hi none p2) pos) (U X.K X.mw E (mSl os ma ml mh)) :=
  PE.imp (pe_slice hr he hl hu) fun σ H Q ⟨Hd, es, eh, xc, q, R, xo, m, k⟩ => ⟨Hd, es, eh, xc, _, R, xo, m, fun eh1 H1 x v s1 R1 r1 m1 => ⟨Hd, es, eh1, xc, _, R.step s1 R1, xo.step s1, m1, fun eh2 H2 l s2 R2 m2 =>
    ⟨Hd, es, eh2, xc, _, (R.step s1 R1).step s2 R2, (xo.step s1).step s2, m2, fun eh3 H3 h s3 R3 m3 => ⟨Hd, eh3, x, q, R3, (r1.step s2).step s3, m3, fun eh4 H4 z w s4 => k eh4 H4 z w (s1.trans (s2.trans (s3.trans s4)))⟩⟩⟩⟩
/-- frozen: lists (also the script), tuples; a text -/
def oSlice : EOS := fun x lo hi eh q => match x with
  | .str z => z.length ≤ sizeLine ∧ q (.str (cutS z lo hi)) eh
  | .tup xs => (xs = cutE xs lo hi ∨ xs ≠ cutE xs lo hi) ∧ q (.tup (cutE xs lo hi)) eh
  | x => ∃ xs, seqE eh x = some xs ∧ q (.lst (cutE xs lo hi)) eh
end
end VM

/-! VM7: sorted(xs), sorted(xs, key=lambda x: x[0]); slices. -/
namespace VM
open PySem PySem.Spec PyProof.Rows L2

theorem extN_step {eh : Eh} {H H' : Hp} (e : LamX.ExtN H H') : Step eh H eh H' :=
  ⟨fun a o h n t => ⟨e a o h t, n⟩, fun a xs h => e a _ h (fun _ z => by cases z), fun a o u h => e a _ h (fun _ z => by cases z)⟩
theorem extN_rh {K mg Hd eh} {H H' : Hp} (R : Rh K mg Hd eh H) (e : LamX.ExtN H H') (t : LamX.Tabs (tabT K) H') : Rh K mg Hd eh H' :=
  ⟨t, fun a o h => by
    obtain ⟨u, hu, _, _, _, ht, _⟩ := (R.ob a o h).some
    exact (R.ob a o h).step' (extN_step e) ((e a u hu ht).trans hu.symm), fun a z => by
    obtain ⟨⟨o, ho⟩, n⟩ := R.hd a z
    exact ⟨⟨o, e a _ ho (fun _ z => by cases z)⟩, n⟩⟩

/-! ### sorted by the text at place 0 -/
def key0 : EV → PyData
  | .tup (.str s :: _) => .str s
  | _ => .none
def isK0 : EV → Bool
  | .tup (.str _ :: _) => true
  | _ => false
def sortK0 (xs : List EV) : List EV := xs.mergeSort (W.dataLe false key0)
def mSortK0 (ma : ME) : ME := fun xc es eh q => ma xc es eh fun x eh1 => ∃ xs, lstE eh1 x = some xs ∧ xs.all isK0 = true ∧ q (.lst (sortK0 xs)) eh1
theorem eachIs_zip {α β : Type} {R : α → β → Prop} : ∀ {as : List α} {bs : List β}, as.length = bs.length → (∀ (i : Nat) a b, as[i]? = some a → bs[i]? = some b → R a b) → W.EachIs R as bs
  | [], [], _, _ => .nil
  | a :: as, b :: bs, hl, h => .cons (h 0 a b rfl rfl) (eachIs_zip (by simpa using hl) fun i a b e e' => h (i + 1) a b (by simpa using e) (by simpa using e'))
  | [], _ :: _, hl, _ => by simp at hl
  | _ :: _, [], hl, _ => by simp at hl
theorem eachIs_get {α β : Type} {R : α → β → Prop} : ∀ {as : List α} {bs : List β}, W.EachIs R as bs → ∀ (i : Nat) b, bs[i]? = some b → ∃ a, as[i]? = some a ∧ R a b
  | _, _, .nil, _, _, h => by simp at h
  | _, _, .cons r t, 0, b, h => by simp at h; subst h; exact ⟨_, rfl, r⟩
  | _, _, .cons r t, i + 1, b, h => by simpa using eachIs_get t i b (by simpa using h)
theorem each_vals {Rr : V × EV → Prop} : ∀ {us : List Value} {bs : List (V × EV)}, W.EachIs (fun u b => RelV b.1 u ∧ Rr b) us bs → Vals (bs.map (·.1)) us
  | _, _, .nil => .nil
  | _, _, .cons r t => .cons r.1 (each_vals t)
theorem rpL_of {K mg Hd eh H} : ∀ {bs : List (V × EV)}, (∀ b ∈ bs, Rp K mg Hd eh H b.2 b.1) → RpL K mg Hd eh H (bs.map (·.2)) (bs.map (·.1))
  | [], _ => rfl
  | b :: bs, h => .cons (h b (by simp)) (rpL_of fun c hc => h c (by simp [hc]))
theorem zip_fst {α β : Type} : ∀ {as : List α} {bs : List β}, as.length = bs.length → (as.zip bs).map (·.1) = as
  | [], [], _ => rfl
  | a :: as, b :: bs, h => by simp [zip_fst (as := as) (bs := bs) (by simpa using h)]
  | [], _ :: _, h => by simp at h
  | _ :: _, [], h => by simp at h
theorem zip_snd {α β : Type} : ∀ {as : List α} {bs : List β}, as.length = bs.length → (as.zip bs).map (·.2) = bs
  | [], [], _ => rfl
  | a :: as, b :: bs, h => by simp [zip_snd (as := as) (bs := bs) (by simpa using h)]
  | [], _ :: _, h => by simp at h
  | _ :: _, [], h => by simp at h
section
variable {X : Cx} {E : XK} {e : Expr} {ma : ME}
/-- what a call of the lambda gives -/
theorem lam0_call {pins : List (Addr × Obj)} {σ : L2.St} {H : Hp} {s : Shared} (I : Inv X pins σ H s) {f c' : Addr} {q : Str} {params : Arguments} {scope : Scope} {cl : List (Str × Addr)} {pm ctv : Value} {x : Str} {p1 p2 p3 : Pos} {j : Nat}
    (hf : s.heap.get? f = some (PySem.W.kla_obj "<lambda>" q params (.Subscript (.Name x p1) (.Constant (.int 0) j p2) p3) scope cl pm c' ctv)) (hc : H c' = some (LamX.CodeO c' q))
    (hkind : scope.kind = .function) (hco : scope.isCoroutine = false) (hgen : scope.isGenerator = false) (hcell : ∀ y ∈ scope.names, y.2 ≠ .cell) (hx : scope.names.lookup x = some .local) (hdb : (x == ("__debug__" : Str)) = false)
    (hbind : ∀ (v : Value), bindArgs (PySem.W.kla_fn "<lambda>" q params (.Subscript (.Name x p1) (.Constant (.int 0) j p2) p3) scope cl pm (.ref c') ctv) ⟨[v], []⟩ = pure [(x, v)])
    {t : Addr} {z : Str} {ws : List V} (ht : SqT X.K H t (.str z :: ws)) {A : Around} (hA : A.depth < recursionLimit) {h : Heap} {tk : Nat} (hk : ∀ b o, s.heap.get? b = some o → h.get? b = some o) :
    wpAny (model X.prog X.w) A (call (.ref f) [.ref t]) (PySem.W.KeyPure (.str z) { s with heap := h, toks := tk }) (fun _ _ => False) { s with heap := h, toks := tk } := by
  have hrec : h.CodeRec (.ref c') q := by
    obtain ⟨⟨oc, vs, tq, e1, e2, e3⟩, _⟩ := I.hok c' _ hc
    exact ⟨c', oc, vs, tq, rfl, hk _ _ e1, e2, e3⟩
  obtain ⟨its, rv, tup, _⟩ := I.tuple ht
  cases rv with
  | cons r rr =>
    rename_i u0 us
    obtain ⟨tz, rfl⟩ := r
    refine wpAny_call ?_
    refine PySem.W.kla_callFunE hA (hk _ _ hf) rfl hco hgen rfl hrec ?_
    rw [hbind]
    refine wpAny_pure (wpAny_newFunctionEnv hcell (fun y hy => by simp at hy; subst hy; exact hx) (fun h₁ hns hsb => ⟨(I.nolimit.keeps hk).fresh _ hsb, ?_⟩) hkind)
    have kp : ∀ b o, h.get? b = some o → h₁.get? b = some o := fun b o e => hsb.extBut b o (Nat.ne_of_lt (Heap.lt_size e)) (Heap.get?_push_of_some _ e)
    refine PySem.W.kla_codeExpr ?_
    refine Subscript_ (wpAny_Name (wpAny_loadName_local (v := .ref t) hkind hx hns (by simp) ?_) hdb)
    refine wpAny_Constant_int ?_
    have tup1 : IsTup h₁ t (Value.str z tz :: us).toArray := by
      obtain ⟨o, a, b, n, c⟩ := tup
      exact ⟨o, kp _ _ (hk _ _ a), b, n, c⟩
    exact subscriptTail_builtinR (x := Value.str z tz) tup1.typeIs slot_tuple_getitem.lookup
      (getItem_tuple (j := 0) (Q := fun r s' => r = Value.str z tz ∧ _) tup1 (by omega) (by omega) (by simp [seqIndex?]) (by simp) ⟨rfl, ⟨_, _, rfl, fun b o e => kp b o e, .str z tz⟩⟩) (by intros; rfl)
theorem mem_get {α : Type} {l : List α} {a : α} (h : a ∈ l) : ∃ i : Nat, l[i]? = some a := by
  obtain ⟨i, hi, e⟩ := List.getElem_of_mem h
  exact ⟨i, by rw [List.getElem?_eq_getElem hi, e]⟩
theorem isK0_of {x : EV} (h : isK0 x = true) : ∃ s r, x = .tup (.str s :: r) := by
  unfold isK0 at h
  split at h
  · exact ⟨_, _, rfl⟩
  · cases h
theorem re_sortK0 {k : Nat} {c P : Addr} {x : Str} {p p1 p2 p3 p4 p5 pos : Pos} {j : Nat} {params : Arguments} {scope : Scope} (hg : Gl X "sorted") (hm : X.mg "sorted" = none) (he : PE X e (U X.K X.mw E ma)) (hr : RoomG k X.A) (TB : LamX.TabB X.base X.mg c P) (hcode : X.env.code = .ref c)
    (hin : (P, X.env.qual ++ "<lambda>") ∈ tabT X.K) (hu : ∀ p ∈ tabT X.K, p.1 = P → p.2 = X.env.qual ++ "<lambda>") (hdef : defaultsOf params X.env = ([], [])) (hfree : ∀ y ∈ scope.names, y.2 = .free → ∃ c, X.env.cells.lookup y.1 = some c)
    (hkind : scope.kind = .function) (hco : scope.isCoroutine = false) (hgen : scope.isGenerator = false) (hcell : ∀ y ∈ scope.names, y.2 ≠ .cell) (hx : scope.names.lookup x = some .local) (hdb : (x == ("__debug__" : Str)) = false)
    (hbind : ∀ (q : Str) (cl : List (Str × Addr)) (pm cv ctv v : Value), bindArgs (PySem.W.kla_fn "<lambda>" q params (.Subscript (.Name x p1) (.Constant (.int 0) j p2) p3) scope cl pm cv ctv) ⟨[v], []⟩ = pure [(x, v)])
    (he0 : starEach [e] X.env = (false, eval e X.env) :: starEach [] X.env := by rfl) (he1 : backTo pos (starEach [e] X.env) = (false, eval e X.env) :: backTo pos (starEach [] X.env) := by rfl) (hpl : (backTo pos (starEach [e] X.env)).any (·.1) = false := by rfl) :
    PE X (.Call (.Name "sorted" p) [e] [⟨some "key", .Lambda params (.Subscript (.Name x p1) (.Constant (.int 0) j p2) p3) scope p4, p5⟩] pos) (U X.K X.mw E (mSortK0 ma)) := by
  refine ⟨fun pins s σ H Q I h => ?_⟩
  refine wpAny_Call_Name_kw (ld_blt (u := .builtin "sorted") I hg hm (by rfl) ?_ (by decide))
  obtain ⟨Hd, es, eh, xc, q, R, xo, m, kk⟩ := h
  refine PyProof.Rows.callWith_kw (PyProof.Rows.args_cons (thn (he.run pins s σ H _ I ⟨Hd, es, eh, xc, _, R, xo, m, fun eh1 H1 x1 v1 s1 R1 r1 m1 => (⟨eh1, x1, s1, R1, r1, m1⟩ : ∃ eh1 x1, Step eh H eh1 H1 ∧ Rh X.K X.mw Hd eh1 H1 ∧ Rp X.K X.mw Hd eh1 H1 x1 v1 ∧ ∃ xs, lstE eh1 x1 = some xs ∧ xs.all isK0 = true ∧ q (.lst (sortK0 xs)) eh1)⟩) fun v1 s1 ⟨x1, H1, I1, rr, eh1, y1, t1, R1, r1, xs, hl, hk, m1⟩ => PyProof.Rows.args_nil ?_) he0) he1 hpl (by rfl) (by rfl)
  refine PyProof.Rows.kws_cons (LamX.lam_make2 I1 TB hcode hin hu R1.tb hdef hfree fun f c' pm ctv H2 s2 I2 ex2 tb2 hf nf _ hc => PyProof.Rows.kws_nil ?_)
  show wpAny _ _ (call (.builtin "sorted") [v1] [(Str.ofString "key", .ref f)]) _ _ _
  have R2 := extN_rh R1 ex2 tb2
  have t2 := extN_step (eh := eh1) ex2
  obtain ⟨a, vs, rfl, ha, rx⟩ := lst_of R2 (r1.step t2) hl
  cases rr
  obtain ⟨its, rv, hls, hz⟩ := I2.list (.inl (.inl ha))
  have hlen : vs.length = xs.length := rx.length.symm
  have hzf := zip_fst (as := vs) (bs := xs) hlen
  have hzs := zip_snd (as := vs) (bs := xs) hlen
  have kpos : ∀ b ∈ vs.zip xs, ∃ s r, b.2 = .tup (.str s :: r) := fun b hb => isK0_of (List.all_eq_true.mp hk b.2 (List.of_mem_zip hb).2)
  have kdat : ∀ b ∈ vs.zip xs, ∃ s, key0 b.2 = .str s := fun b hb => by obtain ⟨s, r, e⟩ := kpos b hb; exact ⟨s, by rw [e]; rfl⟩
  have hea : W.EachIs (fun (u : Value) (b : V × EV) => RelV b.1 u ∧ Rp X.K X.mw Hd eh1 H2 b.2 b.1) its (vs.zip xs) := by
    refine eachIs_zip (by rw [List.length_zip, ← rv.length, hlen, Nat.min_self]) fun i u b hu hb => ?_
    rw [List.getElem?_zip_eq_some] at hb
    obtain ⟨x', hx', r'⟩ := rx.get' hb.1
    rw [hb.2] at hx'; cases hx'
    obtain ⟨u', hu', rr'⟩ := rv.get hb.1
    rw [hu] at hu'; cases hu'
    exact ⟨rr', r'⟩
  refine PySem.W.sorted_key_data (β := V × EV) (b := false) (fun b => key0 b.2) hls.isList hea ?_ ?_ (by rw [List.length_zip, hlen, Nat.min_self]; omega) ?_ (ksk_s1 _ _) (fun _ => ksk_l1 _ _) (fun _ => ksk_t1 _ _) ?_ ?_
  · intro d hd d' hd'
    obtain ⟨b, hb, rfl⟩ := List.mem_map.mp hd
    obtain ⟨b', hb', rfl⟩ := List.mem_map.mp hd'
    obtain ⟨s, e⟩ := kdat b hb
    obtain ⟨s', e'⟩ := kdat b' hb'
    rw [e, e']; rfl
  · refine .inr fun d hd => ?_
    obtain ⟨b, hb, rfl⟩ := List.mem_map.mp hd
    obtain ⟨s, e⟩ := kdat b hb
    rw [e]; exact ⟨by simp, by simp⟩
  · intro b hb
    obtain ⟨s, e⟩ := kdat b hb
    rw [e]
    have := hr.units
    show _ + 2 + 0 < _
    omega
  · intro v b hR hb h tk hkp
    obtain ⟨s, r, e⟩ := kpos b hb
    have hr2 := hR.2
    rw [e] at hr2 ⊢
    obtain ⟨t, ws, e1, sq, rw1⟩ := hr2
    obtain ⟨z, ws', rfl, e2, _⟩ := rw1
    cases e2
    have hv := hR.1
    rw [e1] at hv
    cases hv
    exact lam0_call I2 hf hc hkind hco hgen hcell hx hdb (fun v => hbind _ _ _ _ _ v) sq (by have := hr.dp; show X.A.depth < recursionLimit; omega) hkp
  · intro out c h' tk hkp hn hD hol hout
    have ep := each_vals hout
    have hL2 : ((vs.zip xs).mergeSort (W.dataLe false fun b => key0 b.2)).length ≤ sizeLine := by
      rw [(List.mergeSort_perm _ _).length_eq, List.length_zip, hlen, Nat.min_self]; omega
    have hrp : RpL X.K X.mw Hd eh1 H2 (((vs.zip xs).mergeSort (W.dataLe false fun b => key0 b.2)).map (·.2)) (((vs.zip xs).mergeSort (W.dataLe false fun b => key0 b.2)).map (·.1)) := rpL_of fun b hb => by
      have hb' := (List.mergeSort_perm _ _).mem_iff.mp hb
      obtain ⟨i, hi⟩ := mem_get hb'
      obtain ⟨u, _, h2⟩ := eachIs_get hea i b hi
      exact h2.2
    have hsort : ((vs.zip xs).mergeSort (W.dataLe false fun b => key0 b.2)).map (·.2) = sortK0 xs := by
      rw [PySem.W.sort_maps (r := W.dataLe false fun b : V × EV => key0 b.2) (s := W.dataLe false key0) (fun b : V × EV => b.2) (fun _ _ _ _ => rfl), hzs]; rfl
    rw [hsort] at hrp
    have n2 : H2 (s2.heap.objs.size + 1) = none := I2.hok.fresh (Nat.le_succ _)
    refine ⟨.ref _, upd H2 (s2.heap.objs.size + 1) (.lst (((vs.zip xs).mergeSort (W.dataLe false fun b => key0 b.2)).map (·.1))), I2.laid (t' := tk) hkp (Nat.le_succ _) ⟨by rw [List.length_map]; exact hL2, out, c, ep, hD⟩, rfl, ?_⟩
    have st : Step eh1 H2 eh1 (upd H2 (s2.heap.objs.size + 1) (.lst (((vs.zip xs).mergeSort (W.dataLe false fun b => key0 b.2)).map (·.1)))) := .newF n2
    exact kk eh1 _ (.lst (sortK0 xs)) (.ref _) ((t1.trans t2).trans st) (R2.newF n2) ⟨_, _, rfl, upd_same, ⟨R2.fresh n2, R2.notHid n2⟩, hrp.step st⟩ m1
end
end VM

/-! VM8: ghosts (explicit objects frozen); fields; dicts; instances; properties; keywords; stars. -/
namespace VM
open PySem PySem.Spec PyProof.Rows L2

/-! ### ghosts -/
def fz (S : Addr → Bool) (eh : Eh) : Nat → EV → EV
  | 0, x => x
  | n + 1, x => match x with
    | .tup xs => .tup (xs.map (fz S eh n))
    | .lst xs => .lst (xs.map (fz S eh n))
    | .dct kvs => .dct (kvs.map fun p => (p.1, fz S eh n p.2))
    | .obj C fs => .obj C (fs.map fun p => (p.1, fz S eh n p.2))
    | .dn kvs => .dn (kvs.map fun p => (p.1, fz S eh n p.2))
    | .ref a => if S a then (match eh a with
      | some (.lst xs) => .lst (xs.map (fz S eh n))
      | some (.dct kvs) => .dct (kvs.map fun p => (p.1, fz S eh n p.2))
      | some (.ins C fs) => .obj C (fs.map fun p => (p.1, fz S eh n p.2))
      | some (.dN kvs) => .dn (kvs.map fun p => (p.1, fz S eh n p.2))
      | none => .ref a) else .ref a
    | x => x
def dcs (S : Addr → Bool) (eh : Eh) : Nat → EV → List Addr
  | 0, _ => []
  | n + 1, x => match x with
    | .tup xs => xs.flatMap (dcs S eh n)
    | .lst xs => xs.flatMap (dcs S eh n)
    | .dct kvs => kvs.flatMap fun p => dcs S eh n p.2
    | .obj C fs => fs.flatMap fun p => dcs S eh n p.2
    | .dn kvs => kvs.flatMap fun p => dcs S eh n p.2
    | .ref a => if S a then (match eh a with
      | some (.lst xs) => xs.flatMap (dcs S eh n)
      | some (.dct kvs) => a :: kvs.flatMap fun p => dcs S eh n p.2
      | some (.ins C fs) => fs.flatMap fun p => dcs S eh n p.2
      | some (.dN kvs) => a :: kvs.flatMap fun p => dcs S eh n p.2
      | none => []) else []
    | _ => []
def drE (S : Addr → Bool) (eh : Eh) : Eh := fun a => if S a then none else eh a
def nw (eh : Eh) : Addr → Bool := fun a => (eh a).isNone
theorem dcs_mem {S : Addr → Bool} {eh : Eh} : ∀ (n : Nat) (x : EV) (d : Addr), d ∈ dcs S eh n x → S d = true ∧ ((∃ kvs, eh d = some (.dct kvs)) ∨ ∃ kvs, eh d = some (.dN kvs))
  | 0, _, _, h => by simp [dcs] at h
  | n + 1, x, d, h => by
    cases x with
    | tup xs => simp only [dcs, List.mem_flatMap] at h; obtain ⟨y, _, h⟩ := h; exact dcs_mem n y d h
    | lst xs => simp only [dcs, List.mem_flatMap] at h; obtain ⟨y, _, h⟩ := h; exact dcs_mem n y d h
    | dct xs => simp only [dcs, List.mem_flatMap] at h; obtain ⟨y, _, h⟩ := h; exact dcs_mem n y.2 d h
    | obj C xs => simp only [dcs, List.mem_flatMap] at h; obtain ⟨y, _, h⟩ := h; exact dcs_mem n y.2 d h
    | dn xs => simp only [dcs, List.mem_flatMap] at h; obtain ⟨y, _, h⟩ := h; exact dcs_mem n y.2 d h
    | ref a =>
      simp only [dcs] at h
      split at h
      · rename_i hs
        cases e : eh a with
        | none => rw [e] at h; simp at h
        | some o =>
          rw [e] at h
          cases o with
          | lst xs => simp only [List.mem_flatMap] at h; obtain ⟨y, _, h⟩ := h; exact dcs_mem n y d h
          | dct xs =>
            rcases List.mem_cons.mp h with h | h
            · subst h; exact ⟨hs, .inl ⟨_, e⟩⟩
            · simp only [List.mem_flatMap] at h; obtain ⟨y, _, h⟩ := h; exact dcs_mem n y.2 d h
          | ins C xs => simp only [List.mem_flatMap] at h; obtain ⟨y, _, h⟩ := h; exact dcs_mem n y.2 d h
          | dN xs =>
            rcases List.mem_cons.mp h with h | h
            · subst h; exact ⟨hs, .inr ⟨_, e⟩⟩
            · simp only [List.mem_flatMap] at h; obtain ⟨y, _, h⟩ := h; exact dcs_mem n y.2 d h
      · simp at h
    | _ => simp [dcs] at h
theorem RpL.map {K mg Hd} {eh eh' : Eh} {H H' : Hp} {f : EV → EV} : ∀ {xs : List EV} {vs : List V}, (∀ x ∈ xs, ∀ v, Rp K mg Hd eh H x v → Rp K mg Hd eh' H' (f x) v) → RpL K mg Hd eh H xs vs → RpL K mg Hd eh' H' (xs.map f) vs
  | [], _, _, h => h
  | x :: xs, _, i, ⟨v, r, e, h, t⟩ => ⟨v, r, e, i x (by simp) v h, RpL.map (fun y hy => i y (by simp [hy])) t⟩
theorem RpK.map {K mg Hd} {eh eh' : Eh} {H H' : Hp} {f : EV → EV} : ∀ {xs : List (Key × EV)} {vs : List (Key × V)}, (∀ x ∈ xs, ∀ v, Rp K mg Hd eh H x.2 v → Rp K mg Hd eh' H' (f x.2) v) → RpK K mg Hd eh H xs vs → RpK K mg Hd eh' H' (xs.map fun p => (p.1, f p.2)) vs
  | [], _, _, h => h
  | (k, x) :: xs, _, i, ⟨v, r, e, h, t⟩ => ⟨v, r, e, i (k, x) (by simp) v h, RpK.map (fun y hy => i y (by simp [hy])) t⟩
theorem RpF.map {K mg Hd} {eh eh' : Eh} {H H' : Hp} {f : EV → EV} : ∀ {xs : List (Str × EV)} {vs : List (Str × V)}, (∀ x ∈ xs, ∀ v, Rp K mg Hd eh H x.2 v → Rp K mg Hd eh' H' (f x.2) v) → RpF K mg Hd eh H xs vs → RpF K mg Hd eh' H' (xs.map fun p => (p.1, f p.2)) vs
  | [], _, _, h => h
  | (k, x) :: xs, _, i, ⟨v, r, e, h, t⟩ => ⟨v, r, e, i (k, x) (by simp) v h, RpF.map (fun y hy => i y (by simp [hy])) t⟩
theorem RpN.map {K mg Hd} {eh eh' : Eh} {H H' : Hp} {f : EV → EV} : ∀ {xs : List (NestedKey × EV)} {vs : List V}, (∀ x ∈ xs, ∀ v, Rp K mg Hd eh H x.2 v → Rp K mg Hd eh' H' (f x.2) v) → RpN K mg Hd eh H xs vs → RpN K mg Hd eh' H' (xs.map fun p => (p.1, f p.2)) vs
  | [], _, _, h => h
  | (k, x) :: xs, _, i, ⟨v, r, e, h, t⟩ => ⟨v, r, e, i (k, x) (by simp) v h, RpN.map (fun y hy => i y (by simp [hy])) t⟩
/-- what a ghost locks -/
def Lk (w : World) (o : HO) : Prop := (∃ us, o = .dK us) ∨ ∃ a xs, o = dictN w a xs
section
variable {X : Cx} {Hd : Addr → Prop} {eh : Eh} {H : Hp} {pins : List (Addr × Obj)} {σ : L2.St} {s : Shared}
theorem lock_all (I : Inv X pins σ H s) : ∀ (L : List Addr), (∀ d ∈ L, ∃ u, H d = some u ∧ Lk X.w u) → ∃ H', Inv X pins σ H' s ∧ (∀ d ∈ L, ∃ od u, H d = some u ∧ Lk X.w u ∧ H' d = some (.frz od u)) ∧ ∀ d, d ∉ L → H' d = H d
  | [], _ => ⟨H, I, fun _ h => by simp at h, fun _ _ => rfl⟩
  | d :: L, h => by
    obtain ⟨H1, I1, a1, b1⟩ := lock_all I L fun c hc => h c (by simp [hc])
    by_cases hd : d ∈ L
    · exact ⟨H1, I1, fun c hc => (List.mem_cons.mp hc).elim (fun e => a1 c (e ▸ hd)) (a1 c), fun c hc => b1 c fun z => hc (by simp [z])⟩
    · obtain ⟨u, e, lk⟩ := h d (by simp)
      obtain ⟨od, I2⟩ := I1.lock ((b1 d hd).trans e) (by rcases lk with ⟨us, rfl⟩ | ⟨a, xs, rfl⟩ <;> exact trivial)
      refine ⟨_, I2, fun c hc => ?_, fun c hc => ?_⟩
      · by_cases hcd : c = d
        · subst hcd; exact ⟨od, u, e, lk, upd_same⟩
        · obtain ⟨oc, vs, x, l, y⟩ := a1 c ((List.mem_cons.mp hc).resolve_left hcd)
          exact ⟨oc, vs, x, l, by rw [upd_ne hcd]; exact y⟩
      · have : c ≠ d := fun z => hc (by simp [z])
        rw [upd_ne this]; exact b1 c fun z => hc (by simp [z])
theorem ghostM (I : Inv X pins σ H s) (R : Rh X.K X.mw Hd eh H) (S : Addr → Bool) (L : List Addr) (hL : ∀ d ∈ L, S d = true ∧ ((∃ kvs, eh d = some (.dct kvs)) ∨ ∃ kvs, eh d = some (.dN kvs))) :
    ∃ H', Inv X pins σ H' s ∧ Step eh H (drE S eh) H' ∧ Rh X.K X.mw Hd (drE S eh) H' ∧ (∀ c, S c = false → H' c = H c) ∧ ∀ (m : Nat) (y : EV) (v : V), (∀ d ∈ dcs S eh m y, d ∈ L) → Rp X.K X.mw Hd eh H y v → Rp X.K X.mw Hd (drE S eh) H' (fz S eh m y) v := by
  obtain ⟨H', I', a, b⟩ := lock_all I L fun d hd => by
    obtain ⟨_, ⟨kvs, e⟩ | ⟨kvs, e⟩⟩ := hL d hd
    · obtain ⟨us, e, _⟩ := R.ob d _ e
      exact ⟨_, e, .inl ⟨us, rfl⟩⟩
    · obtain ⟨ys, us, e, _⟩ := R.ob d _ e
      exact ⟨_, e, .inr ⟨d, ys, rfl⟩⟩
  have nd0 : ∀ c o, H c = some o → ¬ Lk X.w o → H' c = some o := fun c o e ne => by
    by_cases hc : c ∈ L
    · obtain ⟨_, u, e', l, _⟩ := a c hc; rw [e] at e'; cases e'; exact absurd l ne
    · rw [b c hc]; exact e
  have nd : ∀ c o, H c = some o → (∀ φ, o ≠ .ext φ) → (∀ us, o ≠ .dK us) → H' c = some o := fun c o e n1 n2 => nd0 c o e fun l => by
    rcases l with ⟨us, e⟩ | ⟨a, xs, e⟩
    · exact n2 _ e
    · exact n1 _ e
  have st : Step eh H (drE S eh) H' := by
    refine ⟨fun c o e n' t => ?_, fun c xs e => nd c _ e (fun _ z => nomatch z) (fun _ z => nomatch z), fun c o u e => nd c _ e (fun _ z => nomatch z) (fun _ z => nomatch z)⟩
    have : c ∉ L := fun z => by obtain ⟨_, ⟨kvs, e⟩ | ⟨kvs, e⟩⟩ := hL c z <;> (rw [n'] at e; cases e)
    exact ⟨by rw [b c this]; exact e, by unfold drE; split <;> first | rfl | exact n'⟩
  have R' : Rh X.K X.mw Hd (drE S eh) H' := by
    refine ⟨fun p hp => ?_, fun c o e => ?_, fun c hc => ?_⟩
    · obtain ⟨ps, q1, q2, q3⟩ := R.tb p hp
      refine ⟨ps, nd _ _ q1 (fun _ z => nomatch z) (fun _ z => nomatch z), q2, fun pos cv e => ?_⟩
      obtain ⟨c', e1, e2⟩ := q3 pos cv e
      exact ⟨c', e1, nd0 _ _ e2 (fun l => by
        rcases l with ⟨us, z⟩ | ⟨a, xs, z⟩
        · unfold LamX.CodeO at z; cases z
        · exact dictN_ne z.symm)⟩
    · unfold drE at e
      split at e
      · cases e
      · rename_i hs
        refine (R.ob c o e).step' st (b c fun z => hs (hL c z).1)
    · obtain ⟨⟨vs, e⟩, e'⟩ := R.hd c hc
      exact ⟨⟨vs, nd _ _ e (fun _ z => nomatch z) (fun _ z => nomatch z)⟩, by unfold drE; split <;> first | rfl | exact e'⟩
  refine ⟨H', I', st, R', fun c hc => b c fun z => (by have := (hL c z).1; rw [hc] at this; cases this), ?_⟩
  intro m
  induction m with
  | zero => intro y v _ r; exact r.step st
  | succ m ih =>
    intro y v hd r
    cases y with
    | tup xs =>
      obtain ⟨p, vs, e, h, t⟩ := r
      exact ⟨p, vs, e, SqT.step st h, t.map fun y hy v => ih y v fun d hd' => hd d (by simp only [dcs, List.mem_flatMap]; exact ⟨y, hy, hd'⟩)⟩
    | lst xs =>
      obtain ⟨p, vs, e, h, nn, t⟩ := r
      have z := st.st p _ h nn.1 (fun _ z => nomatch z)
      exact ⟨p, vs, e, z.1, ⟨z.2, nn.2⟩, t.map fun y hy v => ih y v fun d hd' => hd d (by simp only [dcs, List.mem_flatMap]; exact ⟨y, hy, hd'⟩)⟩
    | dct xs =>
      obtain ⟨p, o, us, e, h, t⟩ := r
      exact ⟨p, o, us, e, st.frz _ _ _ h, t.map fun y hy v => ih y.2 v fun d hd' => hd d (by simp only [dcs, List.mem_flatMap]; exact ⟨y, hy, hd'⟩)⟩
    | obj C xs =>
      obtain ⟨p, c, dx, us, e, mm, h, nn, t⟩ := r
      have z := st.st p _ h nn.1 (fun _ z => nomatch z)
      exact ⟨p, c, dx, us, e, mm, z.1, ⟨z.2, nn.2⟩, t.map fun y hy v => ih y.2 v fun d hd' => hd d (by simp only [dcs, List.mem_flatMap]; exact ⟨y, hy, hd'⟩)⟩
    | dn xs =>
      obtain ⟨p, o, ys, us, e, h, ⟨z1, z2, z3, z4, z5⟩, t⟩ := r
      exact ⟨p, o, ys, us, e, st.frz _ _ _ h, ⟨z1, z2, by rw [List.map_map]; exact z3, fun x hx => ⟨(z4 x hx).1.ext fun _ _ w => SqT.step st w, (z4 x hx).2⟩, z5⟩, t.map fun y hy v => ih y.2 v fun d hd' => hd d (by simp only [dcs, List.mem_flatMap]; exact ⟨y, hy, hd'⟩)⟩
    | ref p =>
      simp only [fz]
      cases hs : S p with
      | false => simp only [Bool.false_eq_true, if_false]; exact r
      | true =>
        simp only [if_true]
        have hz : drE S eh p = none := by unfold drE; rw [hs]; rfl
        cases e : eh p with
        | none => exact r
        | some o =>
          have nh : ¬ Hd p := fun z => by have := (R.hd p z).2; rw [e] at this; cases this
          have q := R.ob p o e
          cases r
          cases o with
          | lst xs =>
            obtain ⟨vs, h, t⟩ := q
            exact ⟨p, vs, rfl, nd _ _ h (fun _ z => nomatch z) (fun _ z => nomatch z), ⟨hz, nh⟩, t.map fun y hy v => ih y v fun d hd' => hd d (by simp only [dcs, hs, e, if_true, List.mem_flatMap]; exact ⟨y, hy, hd'⟩)⟩
          | dct xs =>
            obtain ⟨vs, h, t⟩ := q
            obtain ⟨od, us, h', _, g⟩ := a p (hd p (by simp only [dcs, hs, e, if_true]; simp))
            rw [h] at h'; cases h'
            exact ⟨p, od, vs, rfl, g, t.map fun y hy v => ih y.2 v fun d hd' => hd d (by simp only [dcs, hs, e, if_true, List.mem_cons, List.mem_flatMap]; exact .inr ⟨y, hy, hd'⟩)⟩
          | ins C xs =>
            obtain ⟨c, dx, us, mm, h, t⟩ := q
            exact ⟨p, c, dx, us, rfl, mm, nd _ _ h (fun _ z => nomatch z) (fun _ z => nomatch z), ⟨hz, nh⟩, t.map fun y hy v => ih y.2 v fun d hd' => hd d (by simp only [dcs, hs, e, if_true, List.mem_flatMap]; exact ⟨y, hy, hd'⟩)⟩
          | dN xs =>
            obtain ⟨ys, us, h, z1, z2, z3, z4, z5, t⟩ := q
            obtain ⟨od, u, h', _, g⟩ := a p (hd p (by simp only [dcs, hs, e, if_true]; simp))
            rw [h] at h'; cases h'
            exact ⟨p, od, ys, us, rfl, g, ⟨z1, z2, by rw [List.map_map]; exact z3, fun x hx => ⟨(z4 x hx).1.ext fun _ _ w => SqT.step st w, (z4 x hx).2⟩, z5⟩, (RpN.ofL t).map fun y hy v => ih y.2 v fun d hd' => hd d (by simp only [dcs, hs, e, if_true, List.mem_cons, List.mem_flatMap]; exact .inr ⟨y, hy, hd'⟩)⟩
    | _ => exact r.step st
theorem ghost (I : Inv X pins σ H s) (R : Rh X.K X.mw Hd eh H) (S : Addr → Bool) (n : Nat) (x : EV) (v : V) (r : Rp X.K X.mw Hd eh H x v) :
    ∃ H', Inv X pins σ H' s ∧ Step eh H (drE S eh) H' ∧ Rh X.K X.mw Hd (drE S eh) H' ∧ Rp X.K X.mw Hd (drE S eh) H' (fz S eh n x) v := by
  obtain ⟨H', I', st, R', _, f⟩ := ghostM I R S (dcs S eh n x) (dcs_mem n x)
  exact ⟨H', I', st, R', f n x v (fun _ z => z) r⟩
end
/-- what the expression made is frozen; what it made and doesn't hold is forgotten -/
def mFz (n : Nat) (ma : ME) : ME := fun xc es eh q => ma xc es eh fun x eh1 => q (fz (nw eh) eh1 n x) (drE (nw eh) eh1)
section
variable {X : Cx} {E : XK} {e a b c o : Expr} {ma mb mc mv : ME} {pos pos' : Pos} {ms : MS} {ss : List Stmt}
theorem re_fz (n : Nat) (he : PE X e (U X.K X.mw E ma)) : PE X e (U X.K X.mw E (mFz n ma)) := by
  refine ⟨fun pins s σ H Q I ⟨Hd, es, eh, xc, q, R, xo, m, k⟩ => ?_⟩
  refine thn (he.run pins s σ H (fun v H1 => ∃ eh1 x, Step eh H eh1 H1 ∧ Rh X.K X.mw Hd eh1 H1 ∧ Rp X.K X.mw Hd eh1 H1 x v ∧ q (fz (nw eh) eh1 n x) (drE (nw eh) eh1)) I ⟨Hd, es, eh, xc, _, R, xo, m, fun eh1 H1 x v s1 R1 r1 m1 => ⟨eh1, x, s1, R1, r1, m1⟩⟩) fun v s1 ⟨x', H1, I1, rv, eh1, x, s1, R1, r1, m1⟩ => ?_
  obtain ⟨H2, I2, s2, R2, r2⟩ := ghost I1 R1 (nw eh) n x x' r1
  exact ⟨x', H2, I2, rv, k _ H2 _ _ (s1.trans s2) R2 r2 m1⟩

/-! ### fields -/
def putE (f : Str) (v : EV) : List (Str × EV) → List (Str × EV)
  | [] => [(f, v)]
  | (g, x) :: r => if g = f then (g, v) :: r else (g, x) :: putE f v r
theorem RpF.put {K mg Hd} {eh : Eh} {H : Hp} {f : Str} {y : EV} {v : V} (q : Rp K mg Hd eh H y v) : ∀ {fs : List (Str × EV)} {us : List (Str × V)}, RpF K mg Hd eh H fs us → RpF K mg Hd eh H (putE f y fs) (putF f v us)
  | [], _, h => by cases h; exact ⟨v, [], rfl, q, rfl⟩
  | (g, x) :: r, _, ⟨w, r', e, h, t⟩ => by
    subst e
    unfold putE putF
    by_cases hg : g = f
    · rw [if_pos hg, if_pos hg]; exact ⟨v, _, rfl, q, t⟩
    · rw [if_neg hg, if_neg hg]; exact ⟨w, _, rfl, h, RpF.put q t⟩
theorem putF_self {f : Str} {v : V} : ∀ {us : List (Str × V)}, us.lookup f = some v → putF f v us = us
  | [], h => by simp at h
  | (g, x) :: r, h => by
    unfold putF
    by_cases hg : g = f
    · subst hg; simp at h; subst h; simp
    · rw [if_neg hg]
      have hb : (f == g) = false := beq_eq_false_iff_ne.mpr (Ne.symm hg)
      simp only [List.lookup_cons, hb] at h
      rw [putF_self h]
def mFld (cn f : Str) (ma : ME) : ME := fun xc es eh q => ma xc es eh fun x eh1 => ∃ fs v, insE eh1 x = some (cn, fs) ∧ fs.lookup f = some v ∧ q v eh1
theorem re_fld {cn f : Str} {C : Addr} (hC : X.mg cn = some (.ref C)) (c : Cls X.K C) (n : NoAttr X.K C f) (he : PE X e (U X.K X.mw E ma)) (hb : attributeBase e f X.env (eval e X.env) = eval e X.env := by rfl) : PE X (.Attribute e f pos) (U X.K X.mw E (mFld cn f ma)) :=
  PE.imp (pe_fld he hb) fun σ H Q ⟨Hd, es, eh, xc, q, R, xo, m, k⟩ => ⟨Hd, es, eh, xc, _, R, xo, m, fun eh1 H1 x v s1 R1 r1 ⟨fs, y, hi, hl, m1⟩ => by
    obtain ⟨a, c', dx, us, rfl, hc, h, t⟩ := ins_of R1 r1 hi
    rw [show X.mw.m _ = _ from hC] at hc; cases hc
    obtain ⟨w, hw, rw'⟩ := t.lookup hl
    exact ⟨a, C, dx, us, w, rfl, h, c, n, hw, k eh1 H1 y w s1 R1 rw' m1⟩⟩
def sFldE (cn f : Str) (ma mv : ME) : MS := fun xc d es eh => mv xc es eh fun y eh1 => ma xc es eh1 fun x eh2 => ∃ a fs, x = .ref a ∧ eh2 a = some (.ins cn fs) ∧ fs.length < 1000 ∧ d.nx es (eupd eh2 a (some (.ins cn (putE f y fs))))
theorem rs_fld {cn f : Str} {C : Addr} (hC : X.mg cn = some (.ref C)) (c : Cls X.K C) (n : NoAttr X.K C f) (ha : PE X o (U X.K X.mw E ma)) (hv : PE X e (U X.K X.mw E mv)) (hs : swapsWith e (some (.Attribute o f pos')) pos.line X.env = pure false := by rfl) :
    PS X (.Assign [.Attribute o f pos'] e pos) (US X.K X.mw E (sFldE cn f ma mv)) :=
  PS.imp (ps_fld ha hv hs) fun D σ H ⟨Hd, es, eh, xc, d, R, xo, m, k1, k2, k3, k4⟩ => ⟨Hd, es, eh, xc, _, R, xo, m, fun eh1 H1 y v s1 R1 r1 m1 => ⟨Hd, es, eh1, xc, _, R.step s1 R1, xo.step s1, m1, fun eh2 H2 x w s2 R2 r2 ⟨a, fs, e1, e2, hl, m2⟩ => by
    subst e1
    cases r2
    obtain ⟨c', dx, us, hc, h, t⟩ := R2.ob a _ e2
    rw [show X.mw.m _ = _ from hC] at hc; cases hc
    have st : Step eh2 H2 (eupd eh2 a (some (.ins cn (putE f y fs)))) (upd H2 a (.ins C dx (putF f v us))) := .write R2 e2
    refine ⟨a, C, dx, us, rfl, h, c, n, by rw [← t.length]; exact hl, k1 _ _ _ _ (s1.trans (s2.trans st)) ((R.step (s1.trans s2) R2).step st (.write R2 e2 ⟨C, dx, _, hC, upd_same, (t.step st).put ((r1.step s2).step st)⟩)) m2⟩⟩⟩
/-- the dict (or list) that a field of the object in slot i holds is frozen -/
def sFzF (i : Nat) (cn f : Str) (n : Nat) (ms : MS) : MS := fun xc d es eh => ∃ a fs p, es[i]? = some (some (.ref a)) ∧ eh a = some (.ins cn fs) ∧ fs.lookup f = some (.ref p) ∧ p ≠ a ∧
  ms xc d es (eupd (drE (fun b => b == p) eh) a (some (.ins cn (putE f (fz (fun b => b == p) eh n (.ref p)) fs))))
theorem rs_fzF {i : Nat} {cn f : Str} {n : Nat} (h : PSs X ss (US X.K X.mw E ms)) : PSs X ss (US X.K X.mw E (sFzF i cn f n ms)) := by
  refine ⟨fun pins s σ H D I ⟨Hd, es, eh, xc, d, R, xo, ⟨a, fs, p, ei, ea, hl, hp, m⟩, k1, k2, k3, k4⟩ => ?_⟩
  obtain ⟨H', I', st, R', r'⟩ := ghost I R.obj (fun b => b == p) n (.ref p) (.ref p) rfl
  have ea' : drE (fun b => b == p) eh a = some (.ins cn fs) := by
    unfold drE
    have : (a == p) = false := beq_eq_false_iff_ne.mpr hp.symm
    simp only [this, Bool.false_eq_true, if_false]; exact ea
  obtain ⟨C, dx, us, hc, hh, t⟩ := R'.ob a _ ea'
  have eU : upd H' a (.ins C dx us) = H' := by
    funext b; unfold upd; split
    · rename_i z; rw [z, hh]
    · rfl
  have st2 : Step (drE (fun b => b == p) eh) H' (eupd (drE (fun b => b == p) eh) a (some (.ins cn (putE f (fz (fun b => b == p) eh n (.ref p)) fs)))) H' := by
    have z : Step (drE (fun b => b == p) eh) H' (eupd (drE (fun b => b == p) eh) a (some (.ins cn (putE f (fz (fun b => b == p) eh n (.ref p)) fs)))) (upd H' a (.ins C dx us)) := .write R' ea'
    rw [eU] at z; exact z
  have lk : us.lookup f = some (.ref p) := by
    obtain ⟨w, hw, rw'⟩ := t.lookup hl
    rw [hw]; cases rw'; rfl
  have R2 : Rh X.K X.mw Hd (eupd (drE (fun b => b == p) eh) a (some (.ins cn (putE f (fz (fun b => b == p) eh n (.ref p)) fs)))) H' := by
    have z := Rh.write (o := .ins C dx us) (eo := .ins cn (putE f (fz (fun b => b == p) eh n (.ref p)) fs)) R' ea' (by
      rw [eU]
      refine ⟨C, dx, us, hc, hh, ?_⟩
      have := (t.step st2).put (f := f) (r'.step st2)
      rw [putF_self lk] at this
      exact this)
    rw [eU] at z; exact z
  have s2 := st.trans st2
  exact h.run pins s σ H' D I' ⟨Hd, es, _, xc, d, R.step s2 R2, xo.step s2, m, fun es2 eh2 σ2 H2 s3 => k1 es2 eh2 σ2 H2 (s2.trans s3), fun eh2 H2 x v s3 => k2 eh2 H2 x v (s2.trans s3), fun es2 eh2 σ2 H2 s3 => k3 es2 eh2 σ2 H2 (s2.trans s3), fun es2 eh2 σ2 H2 s3 => k4 es2 eh2 σ2 H2 (s2.trans s3)⟩

/-! ### dicts -/
def putKE (kvs : List (Key × EV)) (k : Key) (v : EV) : List (Key × EV) :=
  if (kvs.any fun kv => decide (kv.1 = k)) = true then kvs.map (fun kv => if kv.1 = k then (kv.1, v) else kv) else kvs ++ [(k, v)]
theorem RpK.any {K mg Hd} {eh : Eh} {H : Hp} {k : Key} : ∀ {xs : List (Key × EV)} {us : List (Key × V)}, RpK K mg Hd eh H xs us → (us.any fun kv => decide (kv.1 = k)) = (xs.any fun kv => decide (kv.1 = k))
  | [], _, h => by cases h; rfl
  | (_, _) :: _, _, ⟨_, _, e, _, t⟩ => by subst e; simp only [List.any_cons, RpK.any t]
theorem RpK.sets {K mg Hd} {eh : Eh} {H : Hp} {k : Key} {x : EV} {v : V} (q : Rp K mg Hd eh H x v) : ∀ {xs : List (Key × EV)} {us : List (Key × V)}, RpK K mg Hd eh H xs us → RpK K mg Hd eh H (xs.map fun kv => if kv.1 = k then (kv.1, x) else kv) (us.map fun kv => if kv.1 = k then (kv.1, v) else kv)
  | [], _, h => by cases h; rfl
  | (k', y) :: xs, _, ⟨w, r, e, h, t⟩ => by
    subst e
    simp only [List.map_cons]
    by_cases hk : k' = k
    · rw [if_pos hk, if_pos hk]; exact ⟨v, _, rfl, q, RpK.sets q t⟩
    · rw [if_neg hk, if_neg hk]; exact ⟨w, _, rfl, h, RpK.sets q t⟩
theorem RpK.app {K mg Hd} {eh : Eh} {H : Hp} {k : Key} {x : EV} {v : V} (q : Rp K mg Hd eh H x v) : ∀ {xs : List (Key × EV)} {us : List (Key × V)}, RpK K mg Hd eh H xs us → RpK K mg Hd eh H (xs ++ [(k, x)]) (us ++ [(k, v)])
  | [], _, h => by cases h; exact ⟨v, [], rfl, q, rfl⟩
  | (k', y) :: xs, _, ⟨w, r, e, h, t⟩ => by subst e; exact ⟨w, _, rfl, h, RpK.app q t⟩
theorem RpK.put {K mg Hd} {eh : Eh} {H : Hp} {k : Key} {x : EV} {v : V} (q : Rp K mg Hd eh H x v) {xs : List (Key × EV)} {us : List (Key × V)} (h : RpK K mg Hd eh H xs us) : RpK K mg Hd eh H (putKE xs k x) (putK us k v) := by
  unfold putKE putK
  rw [h.any]
  split
  · exact h.sets q
  · exact h.app q
def sDPutE (md mk mv : ME) : MS := fun xc d es eh => mv xc es eh fun v eh1 => md xc es eh1 fun x eh2 => mk xc es eh2 fun y eh3 => ∃ a kvs k, x = .ref a ∧ eh3 a = some (.dct kvs) ∧ keyE y = some k ∧ kvs.length < sizeLine ∧ d.nx es (eupd eh3 a (some (.dct (putKE kvs k v))))
theorem rs_dput {k : Nat} (hr : RoomG k X.A) (ho : PE X o (U X.K X.mw E ma)) (hi : PE X c (U X.K X.mw E mb)) (hv : PE X e (U X.K X.mw E mv)) (hs : swapsWith e (some (.Subscript o c pos')) pos.line X.env = pure false := by rfl) :
    PS X (.Assign [.Subscript o c pos'] e pos) (US X.K X.mw E (sDPutE ma mb mv)) :=
  PS.imp (ps_dput (by have := hr.units; omega) ho hi hv hs) fun D σ H ⟨Hd, es, eh, xc, d, R, xo, m, k1, k2, k3, k4⟩ => ⟨Hd, es, eh, xc, _, R, xo, m, fun eh1 H1 v v1 s1 R1 r1 m1 => ⟨Hd, es, eh1, xc, _, R.step s1 R1, xo.step s1, m1, fun eh2 H2 x x2 s2 R2 r2 m2 =>
    ⟨Hd, es, eh2, xc, _, (R.step s1 R1).step s2 R2, (xo.step s1).step s2, m2, fun eh3 H3 y y3 s3 R3 r3 ⟨a, kvs, k, e1, e2, e3, hl, m3⟩ => by
      subst e1
      cases r2
      obtain ⟨us, h, t⟩ := R3.ob a _ e2
      have st : Step eh3 H3 (eupd eh3 a (some (.dct (putKE kvs k v)))) (upd H3 a (.dK (putK us k v1))) := .write R3 e2
      refine ⟨a, _, rfl, by rw [keyE_of r3 e3]; exact .k h (by rw [← t.length]; exact hl), k1 _ _ _ _ (s1.trans (s2.trans (s3.trans st))) ((R.step (s1.trans (s2.trans s3)) R3).step st (.write R3 e2 ⟨_, upd_same, (t.step st).put ((r1.step (s2.trans s3)).step st)⟩)) m3⟩⟩⟩⟩
def mDNew : ME := fun _ _ eh q => ∀ p, eh p = none → q (.ref p) (eupd eh p (some (.dct [])))
theorem re_dnew : PE X (.Dict [] [] pos) (U X.K X.mw E mDNew) :=
  PE.imp pe_dnewK fun σ H Q ⟨Hd, es, eh, xc, q, R, xo, m, k⟩ p hp => k _ _ (.ref p) (.ref p) (.new hp) (R.obj.new (eo := .dct []) hp ⟨[], upd_same, rfl⟩) rfl (m p (R.obj.fresh hp))

/-! ### parallel assignment -/
def sPar (i j : Nat) (t : MA) : MS := fun xc d es eh => t xc es eh fun xs eh1 => ∃ x y, xs = [x, y] ∧ d.nx ((es.set i (some x)).set j (some y)) eh1
theorem rs_par {i j : Nat} {x y : Str} {a b : Expr} {t : MA} {px py pt : Pos} {kt k2 pt2} (hc : X.calm = true) (hN : X.N.Nodup) (ha : PA X [a, b] (UA X.K X.mw E t)) (hi : X.N[i]? = some x := by rfl) (hj : X.N[j]? = some y := by rfl) (hij : i ≠ j := by decide)
    (hx : X.env.scope.names.lookup x = some .local := by rfl) (hy : X.env.scope.names.lookup y = some .local := by rfl)
    (hw : swappedStores [.Tuple [.Name x px, .Name y py] kt pt] (.Tuple [a, b] k2 pt2) X.env = pure (some [x, y]) := by rfl)
    (hs : swapsWithSole [.Tuple [.Name x px, .Name y py] kt pt] (.Tuple [a, b] k2 pt2) pos.line X.env = pure false := by rfl) :
    PS X (.Assign [.Tuple [.Name x px, .Name y py] kt pt] (.Tuple [a, b] k2 pt2) pos) (US X.K X.mw E (sPar i j t)) :=
  PS.imp (ps_par hc hN hi hj hij hx hy ha hw hs) fun D σ H ⟨Hd, es, eh, xc, d, R, xo, m, k1, k2, k3, k4⟩ => ⟨Hd, es, eh, xc, _, R, xo, m, fun eh1 H1 xs vs s1 R1 r1 ⟨x, y, e, m1⟩ => by
    subst e
    obtain ⟨v, _, rfl, r, ⟨w, _, rfl, r', e⟩⟩ := r1
    cases e
    exact ⟨v, w, rfl, k1 _ _ _ _ s1 (((R.step s1 R1).set r).set r') m1⟩⟩
/-! ### lists, items stored -/
end

/-! ### instances -/
section
variable {X : Cx} {CX : CXT} {k np : Nat} {f C : Addr} {fd : FuncData} {ps : List Str} {F : FN} {dvs : List V} {ds : List Value} {dx : List EV} {E : XK} {x m : Str} {p pos apos : Pos} {e o : Expr} {es : List Expr} {ma : ME} {t tk : MA}
def mMake (cn : Str) (F : FN) (n : Nat) (dx : List EV) (t : MA) : ME := fun xc es eh q => t xc es eh fun xs eh1 => (xs ++ dx).length + 1 = n ∧ ∀ p, eh1 p = none → F xc (.ref p :: (xs ++ dx)) (eupd eh1 p (some (.ins cn []))) fun v eh2 => v = .non ∧ q (.ref p) eh2
theorem make_lift {cn : Str} (hC : X.mg cn = some (.ref C)) (hdx : ∀ Hd eh H, RpL X.K X.mw Hd eh H dx dvs) : ∀ σ H Q, U X.K X.mw E (mMake cn F np dx t) σ H Q → tMake C (spOf X.K X.mw np F) dvs E (UA X.K X.mw E t) σ H Q := fun σ H Q ⟨Hd, es, eh, xc, q, R, xo, m, kk⟩ =>
  ⟨Hd, es, eh, xc, _, R, xo, m, fun eh1 H1 xs vs s1 R1 r1 ⟨hl, m1⟩ x dx' hx hdx' hne => by
    have st1 : Step eh1 H1 eh1 (upd H1 dx' (.own x)) := .newF hdx'
    have R1' := R1.newF (o := .own x) hdx'
    have hx' : upd H1 dx' (.own x) x = none := by rw [upd_ne hne.symm]; exact hx
    have st2 : Step eh1 (upd H1 dx' (.own x)) (eupd eh1 x (some (.ins cn []))) (upd (upd H1 dx' (.own x)) x (.ins C dx' [])) := .new hx'
    have st := st1.trans st2
    exact ⟨Hd, _, .ref x :: (xs ++ dx), xc, _, by rw [← hl]; exact (congrArg Nat.succ (r1.append (hdx Hd eh1 H1)).length).symm, R1'.new (eo := .ins cn []) hx' ⟨C, dx', [], hC, upd_same, rfl⟩, .cons rfl ((r1.append (hdx Hd eh1 H1)).step st), (xo.step s1).step st, m1 x (R1.fresh hx), fun eh2 H2 z w s2 R2 r2 ⟨e1, m2⟩ => ⟨by subst e1; exact r2, kk eh2 H2 (.ref x) (.ref x) (s1.trans (st.trans s2)) R2 rfl m2⟩⟩⟩
theorem re_make {cn : Str} (M : Mk X.K C f) (hC : X.mg cn = some (.ref C)) (G : FnG X.prog X.w X.K X.mg X.base CX k f fd ps (spOf X.K X.mw np F)) (hr : RoomG (k + 1) X.A) (hg : Gl X cn) (hb : Binds X.K fd ps ds) (hd : Vals dvs ds) (hdx : ∀ Hd eh H, RpL X.K X.mw Hd eh H dx dvs) (hx : Passes CX X E)
    (ha : PA X (e :: es) (UA X.K X.mw E t)) (hdb : (cn == ("__debug__" : Str)) = false := by decide) (he : starEach (e :: es) X.env = (false, eval e X.env) :: starEach es X.env := by rfl) (hpl : (backTo pos (starEach es X.env)).any (·.1) = false := by rfl) :
    PE X (.Call (.Name cn p) (e :: es) [] pos) (U X.K X.mw E (mMake cn F np dx t)) :=
  PE.imp (G.make_ M hr hg hC hb hd (Passes.at hx) ha hdb he hpl) (make_lift hC hdx)
structure GOk (K : PySem.W.Frag) (mg : MW) (gE : List EV → List EV → List EV) (gV : List V → List V → List V) : Prop where
  rel : ∀ {Hd eh H} {xs zs : List EV} {vs ws : List V}, RpL K mg Hd eh H xs vs → RpL K mg Hd eh H zs ws → RpL K mg Hd eh H (gE xs zs) (gV vs ws)
theorem rk_nil : PK X [] (UA X.K X.mw E aNil) := ⟨fun pos pins s σ H Q I h => by
  obtain ⟨Hd, es, eh, xc, q, R, xo, m, k⟩ := h
  exact wpAny_evalAll_nil ⟨[], H, I, .nil, k eh H [] [] .refl R.obj rfl m⟩⟩
theorem rk_cons {nm : Option Str} {kpos : Pos} {kws : List Keyword} {mr : MA} (ha : PE X e (U X.K X.mw E ma)) (hr : PK X kws (UA X.K X.mw E mr)) : PK X (⟨nm, e, kpos⟩ :: kws) (UA X.K X.mw E (aCons ma mr)) :=
  ⟨fun pos pins s σ H Q I ⟨Hd, es, eh, xc, q, R, xo, m, k⟩ => (pk_cons ha hr).run pos pins s σ H Q I ⟨Hd, es, eh, xc, _, R, xo, m, fun eh1 H1 x v s1 R1 r1 m1 =>
    ⟨Hd, es, eh1, xc, _, R.step s1 R1, xo.step s1, m1, fun eh2 H2 xs vs s2 R2 r2 m2 => k eh2 H2 _ _ (s1.trans s2) R2 (.cons (r1.step s2) r2) m2⟩⟩⟩
/-! ### properties -/
def mProp (cn : Str) (F : FN) (n : Nat) (dx : List EV) (ma : ME) : ME := fun xc es eh q => ma xc es eh fun x eh1 => ∃ fs, insE eh1 x = some (cn, fs) ∧ dx.length + 1 = n ∧ F xc (x :: dx) eh1 q
theorem re_prop {cn : Str} {pr : Addr} (hC : X.mg cn = some (.ref C)) (c : Cls X.K C) (he : PE X e (U X.K X.mw E ma)) (hp : PropOf X.K C m pr f) (G : FnG X.prog X.w X.K X.mg X.base CX k f fd ps (spOf X.K X.mw np F)) (hr : RoomG (k + 1) X.A) (hb : Binds X.K fd ps ds) (hd : Vals dvs ds) (hdx : ∀ Hd eh H, RpL X.K X.mw Hd eh H dx dvs) (hx : Passes CX X.nox E)
    (hab : attributeBase e m X.env (eval e X.env) = eval e X.env := by rfl) : PE X (.Attribute e m pos) (U X.K X.mw E (mProp cn F np dx ma)) :=
  PE.imp (G.prop_ he c hp hr hb hd (Passes.at hx) hab) fun σ H Q ⟨Hd, es, eh, xc, q, R, xo, mm, kk⟩ => ⟨Hd, es, eh, xc, _, R, xo, mm, fun eh1 H1 x v s1 R1 r1 ⟨fs, hi, hl, m1⟩ => by
    obtain ⟨a, c', dx', us, rfl, hc, h, t⟩ := ins_of R1 r1 hi
    rw [show X.mw.m _ = _ from hC] at hc; cases hc
    exact ⟨a, dx', us, rfl, h, Hd, eh1, x :: dx, xc, q, by rw [← hl]; exact (congrArg Nat.succ (hdx Hd eh1 H1).length).symm, R1, .cons r1 (hdx Hd eh1 H1), xo.step s1, m1, fun eh2 H2 z w s2 => kk eh2 H2 z w (s1.trans s2)⟩⟩
/-! ### keywords, stars -/
def mCallN (F : FN) (N n m : Nat) (gE : List EV → List EV → List EV) (t tk : MA) : ME := fun xc es eh q => t xc es eh fun xs eh1 => tk xc es eh1 fun zs eh2 => xs.length = n ∧ zs.length = m ∧ (gE xs zs).length = N ∧ F xc (gE xs zs) eh2 q
/-- keywords alone -/
theorem re_callN0 {ks : List Str} {kws : List Keyword} {g : List Value → List Value → List Value} {gV : List V → List V → List V} {gE : List EV → List EV → List EV} (G : FnG X.prog X.w X.K X.mg X.base CX k f fd ps (spOf X.K X.mw np F)) (hr : RoomG k X.A) (hg : Gl X x) (hm : X.mg x = some (.ref f)) (hk : PySem.W.keepIn X.K (.ref f) = true) (hb : KBn X.K fd ps 0 ks g gV) (hG : GOk X.K X.mw gE gV) (hx : Passes CX X E)
    (hkw : PK X kws (UA X.K X.mw E tk)) (hall : (backToKw pos (keywordEach kws X.env)).all (·.1.isSome) = true := by rfl) (hks : (backToKw pos (keywordEach kws X.env)).filterMap (·.1) = ks := by rfl)
    (hdb : (x == ("__debug__" : Str)) = false := by decide)
    (hpl : ((backTo pos (starEach [] X.env)).any (·.1) || (backToKw pos (keywordEach kws X.env)).any (·.1.isNone)) = false := by rfl) :
    PE X (.Call (.Name x p) [] kws pos) (U X.K X.mw E (mCallN F np 0 ks.length gE aNil tk)) := by
  refine PE.imp (G.callk0_ hr hg hm hk hb (Passes.at hx) hkw hall hks hdb hpl) fun σ H Q ⟨Hd, es, eh, xc, q, R, xo, m, kk⟩ => ?_
  exact ⟨Hd, es, eh, xc, _, R, xo, m, fun eh2 H2 zs ws s2 R2 r2 ⟨h1, h2, hl, m2⟩ => ⟨rfl, by rw [← h2]; exact r2.length.symm,
      Hd, _, _, xc, _, by rw [← hl]; exact (hG.rel .nil r2).length.symm, R2, hG.rel .nil r2, xo.step s2, m2, fun eh3 H3 z w s3 => kk eh3 H3 z w (s2.trans s3)⟩⟩
def aStar (ma : ME) (r : MA) : MA := fun xc es eh q => ma xc es eh fun x eh1 => ∃ ys, seqE eh1 x = some ys ∧ r xc es eh1 fun xs eh2 => q (ys ++ xs) eh2
end
end VM

/-! VM9: slices, items stored, lists of keys. -/
namespace VM
open PySem PySem.Spec PyProof.Rows L2
section
variable {X : Cx} {E : XK} {e o c : Expr} {ma mb mv : ME} {pos pos' : Pos}
theorem RpL.cut {K mg Hd} {eh : Eh} {H : Hp} {xs : List EV} {vs : List V} (r : RpL K mg Hd eh H xs vs) (lo hi : Option Int) : RpL K mg Hd eh H (cutE xs lo hi) (cutV vs lo hi) := by
  unfold cutE cutV
  rw [r.length]
  exact (r.drop _).take _
theorem cutE_whole {xs : List EV} {lo hi : Option Int} (h : HT.sIx xs.length 0 lo = 0 ∧ HT.sIx xs.length xs.length hi = xs.length) : cutE xs lo hi = xs := by
  unfold cutE
  rw [h.1, h.2]
  simp
theorem sl_any : SlR X (USl X.K X.mw oSlice) := by
  intro pins s σ H v w vl vu lo hi sl Q I rv hs pl pu ⟨Hd, eh, x, q, R, r, m, k⟩
  have lst : ∀ {a : Addr} {vs : List V} {xs : List EV}, v = .ref a → SqL X.K H a vs → RpL X.K X.mw Hd eh H xs vs → q (.lst (cutE xs lo hi)) eh →
      ∃ T id, typeLookup (.type T) "__getitem__" = pure (some (.builtin id)) ∧ s.TypeIs w T ∧ wpAny (model X.prog X.w) X.A (getItem w (.ref sl)) (EP X pins σ Q) X.xe s := fun {a vs xs} hv h t m =>
    sl_list pins s σ H v w vl vu lo hi sl Q I rv hs pl pu ⟨a, vs, hv, h, fun p hp => k eh _ (.lst (cutE xs lo hi)) (.ref p) (.newF hp) (R.newF hp) ⟨p, _, rfl, upd_same, ⟨R.fresh hp, R.notHid hp⟩, (t.cut lo hi).step (.newF hp)⟩ m⟩
  have rest : (∃ xs, seqE eh x = some xs ∧ q (.lst (cutE xs lo hi)) eh) → (∀ xs, x ≠ .tup xs) → ∃ T id, typeLookup (.type T) "__getitem__" = pure (some (.builtin id)) ∧ s.TypeIs w T ∧ wpAny (model X.prog X.w) X.A (getItem w (.ref sl)) (EP X pins σ Q) X.xe s := by
    clear m
    rintro ⟨xs, h, mm⟩ nt
    cases x with
    | lst ys => cases h; obtain ⟨a, vs, e, h, _, t⟩ := r; exact lst e (.inl (.inl h)) t mm
    | scr ns => cases h; obtain ⟨a, e, h⟩ := r; exact lst e h.sq (RpL.of_ints ns) mm
    | tup ys => exact absurd rfl (nt ys)
    | ref a =>
      simp only [seqE] at h
      cases e : eh a with
      | none => rw [e] at h; cases h
      | some o =>
        rw [e] at h
        cases o with
        | lst ys => cases h; obtain ⟨vs, h, t⟩ := R.ob a _ e; exact lst r (.inl (.inl h)) t mm
        | _ => cases h
    | _ => cases h
  unfold oSlice at m
  split at m
  · cases r
    exact sl_str pins s σ H _ w vl vu lo hi sl Q I rv hs pl pu ⟨_, rfl, m.1, k eh H (.str _) (.str _) .refl R rfl m.2⟩
  · rename_i xs
    obtain ⟨a, vs, e, h, t⟩ := r
    refine sl_tupA pins s σ H v w vl vu lo hi sl Q I rv hs pl pu ⟨a, vs, e, h, fun hw => ?_, fun _ p hp => k eh _ (.tup (cutE xs lo hi)) (.ref p) (.newF hp) (R.newF hp) ⟨p, _, rfl, .inl (.inl upd_same), (t.cut lo hi).step (.newF hp)⟩ m.2⟩
    refine k eh H (.tup (cutE xs lo hi)) (.ref a) .refl R ⟨a, vs, rfl, h, ?_⟩ m.2
    rw [cutE_whole (by rw [t.length]; exact hw)]; exact t
  · rename_i nstr ntup; exact rest m ntup
def sLPutN (md mk mv : ME) : MS := fun xc d es eh => mv xc es eh fun v eh1 => md xc es eh1 fun x eh2 => mk xc es eh2 fun y eh3 => ∃ a xs i j, x = .ref a ∧ eh3 a = some (.lst xs) ∧ y = .int i ∧ ixN xs.length i = some j ∧ d.nx es (eupd eh3 a (some (.lst (xs.set j v))))
theorem rs_lput (ho : PE X o (U X.K X.mw E ma)) (hi : PE X c (U X.K X.mw E mb)) (hv : PE X e (U X.K X.mw E mv)) (hs : swapsWithSole [.Subscript o c pos'] e pos.line X.env = pure false := by rfl) (hw : swappedStores [.Subscript o c pos'] e X.env = pure none := by rfl)
    (h1 : (assignEach [.Subscript o c pos'] X.env).map (·.2) = [assign (.Subscript o c pos') X.env] := by rfl)
    (has : ∀ v, assign (.Subscript o c pos') X.env v = (do
      let ov ← holding [v] (eval o X.env)
      let iv ← holding [v, ov] (eval c X.env)
      standAt pos'
      holding [v, ov, iv] (setItem ov iv v)
      release [v, ov, iv] []) := by intro _; rfl) :
    PS X (.Assign [.Subscript o c pos'] e pos) (US X.K X.mw E (sLPutN ma mb mv)) :=
  PS.imp (ps_asg hv (pg_sub ho hi set_list has) hs hw h1) fun D σ H ⟨Hd, es, eh, xc, d, R, xo, m, k1, k2, k3, k4⟩ => ⟨Hd, es, eh, xc, _, R, xo, m, fun eh1 H1 v v1 s1 R1 r1 m1 => ⟨Hd, es, eh1, xc, _, R.step s1 R1, xo.step s1, m1, fun eh2 H2 x x2 s2 R2 r2 m2 =>
    ⟨Hd, es, eh2, xc, _, (R.step s1 R1).step s2 R2, (xo.step s1).step s2, m2, fun eh3 H3 y y3 s3 R3 r3 ⟨a, xs, i, j, e1, e2, e3, hj, m3⟩ => by
      subst e1 e3
      cases r2
      cases r3
      obtain ⟨vs, h, t⟩ := R3.ob a _ e2
      have st : Step eh3 H3 (eupd eh3 a (some (.lst (xs.set j v)))) (upd H3 a (.lst (vs.set j v1))) := .write R3 e2
      exact ⟨a, vs, i, j, rfl, rfl, h, by rw [← t.length]; exact hj, k1 _ _ _ _ (s1.trans (s2.trans (s3.trans st))) ((R.step (s1.trans (s2.trans s3)) R3).step st (.write R3 e2 ⟨_, upd_same, (t.step st).set ((r1.step (s2.trans s3)).step st) j⟩)) m3⟩⟩⟩⟩
/-- values that match a dict's keys, place by place -/
theorem keys_rel {kvs : List (Key × V)} {ws : List (Key × Value)} (kv : KV kvs ws) : ∀ {us : List Value}, us.length = ws.length → (∀ (i : Nat) u, us[i]? = some u → ∃ k y, ws[i]? = some (k, y) ∧ keyIs k u = true) → Vals (kvs.map fun p => kV p.1) us := by
  unfold KV at kv
  induction kv with
  | nil => intro us hl _; cases us with
    | nil => exact .nil
    | cons => simp at hl
  | cons hd _ ih => intro us hl f; cases us with
    | nil => simp at hl
    | cons u us =>
      obtain ⟨k, y, e, hk⟩ := f 0 u rfl
      cases e
      exact .cons (by show RelV (kV _) u; rw [hd.1]; exact keyIs_rel hk) (ih (by simpa using hl) fun i w h => f (i + 1) w (by simpa using h))
/-- list(d) of a dict that is locked or not -/
theorem list_of_keys (hc : X.calm = true) : CallR X (.type "list") (fun vs H Q => ∃ d kvs, vs = [V.ref d] ∧ Rd H d (.dK kvs) ∧ ∀ l, H l = none → Q (.ref l) (upd H l (.lst (kvs.map fun p => kV p.1)))) :=
  fun pins s σ H vs us Q I r ⟨d, kvs, hv, hd, q⟩ => by
    subst hv
    obtain ⟨w, rfl, rw'⟩ := vals1 r
    cases rw'
    have ok := hd.ok I.hok
    obtain ⟨hz, hs, ws, kv, dof⟩ := ok
    have hlen : kvs.length = ws.length := Paired.length kv
    obtain ⟨n, at_⟩ := dof.dictAt
    have new : H s.heap.objs.size = none := I.hok.fresh (Nat.le_refl _)
    refine PySem.W.kdl_call (PySem.W.kdl_dict (knd := mixKind X.prog X.w) hs) (I.ok.hd hc) at_ (hlen ▸ hz) fun h1 t1 arr c1 kp1 got it1 => ⟨.ref s.heap.objs.size, _, I.laid (o := .lst (kvs.map fun p => kV p.1)) kp1 (Nat.le_refl _) ?_, rfl, q _ new⟩
    have vr : Vals (kvs.map fun p => kV p.1) arr.toList := keys_rel kv (by rw [Array.length_toList]; exact it1.1) fun i u h => it1.2 i u (by simpa using h)
    exact ⟨by simpa using hz, arr.toList, c1, vr, by simpa using got⟩
theorem rpL_keys {K mg Hd} {eh : Eh} {H : Hp} : ∀ {xs : List (Key × EV)} {us : List (Key × V)}, RpK K mg Hd eh H xs us → RpL K mg Hd eh H (xs.map fun p => keyV p.1) (us.map fun p => kV p.1)
  | [], _, h => by cases h; rfl
  | (k, _) :: _, _, ⟨v, r, e, _, t⟩ => by
    subst e
    refine .cons ?_ (rpL_keys t)
    cases k <;> rfl
def bListD : EOL := fun xs eh q => match xs with
  | [x] => ∃ kvs, dctE eh x = some kvs ∧ q (.lst (kvs.map fun p => keyV p.1)) eh
  | _ => False
theorem cb_listD (hc : X.calm = true) : CallR X (.type "list") (UL X.K X.mw bListD) := CallR.imp (list_of_keys hc) fun vs H Q ⟨Hd, eh, xs, q, R, rx, m, k⟩ => by
  unfold bListD at m
  split at m
  · obtain ⟨ys, hy, m⟩ := m
    obtain ⟨v, rfl, h⟩ := one_of rx
    obtain ⟨a, ws, rfl, hs, rr⟩ := dct_of R h hy
    exact ⟨a, ws, rfl, hs, fun l hl => k eh _ (.lst _) (.ref l) (.newF hl) (R.newF hl) ⟨l, _, rfl, upd_same, ⟨R.fresh hl, R.notHid hl⟩, (rpL_keys rr).step (.newF hl)⟩ m⟩
  · exact m.elim
end
end VM

/-! VMD: repr of data; xs[::-1]. -/
namespace VM
open PySem PySem.Spec PyProof.Rows L2
section
variable {X : Cx} {E : XK} {e : Expr} {ma : ME} {pos p1 p2 p3 : Pos}
/-- xs[::-1], frozen -/
def mRev (ma : ME) : ME := fun xc es eh q => ma xc es eh fun x eh1 => ∃ xs, lstE eh1 x = some xs ∧ q (.lst xs.reverse) eh1
end
end VM

/-! VME: isinstance of an instance; == of instances by their own __eq__; == of (int, int, dict of data). -/
namespace VM
open PySem PySem.Spec PyProof.Rows L2
/-- a class that isinstance knows -/
def isCB (K : PySem.W.Frag) (x : Str) : Bool :=
  He.eqO (PySem.W.findIn K (.ref (He.ga K x)) "__class__") (some (some (.builtin "object.__class__"))) && (He.eqO (PySem.W.specialIn K (.builtin "object.__class__") "__get__") (some (some (.builtin "getset_descriptor.__get__"))) &&
  (decide (PySem.W.takesIn K (.builtin "object.__class__") = some true) && (decide (PySem.W.mroIn K (He.ga K x) (.type "object") = some true) && decide (PySem.W.kitOne K (.ref (He.ga K x)) (.ref (He.ga K x)) = some true))))
def eK (ka kb : List (Key × EV)) (k : Key) : Bool := match getK ka k, getK kb k with
  | some x, some y => PyData.eqv (D x) (D y)
  | _, _ => false
def eqKV (ka kb : List (Key × EV)) : Bool := (ka.length == kb.length) && (ka.map (·.1)).all fun k => (getK kb k).isSome && eK ka kb k
structure PD (x : EV) : Prop where
  d : isD x = true
  p : (D x).plain = true
  z : (D x).depth ≤ 40
theorem getK_mem : ∀ {ka : List (Key × EV)} {k : Key} {x : EV}, getK ka k = some x → (k, x) ∈ ka
  | (k', y) :: ka, k, x, h => by
    by_cases e : k' = k
    · subst e; simp [getK] at h; subst h; simp
    · simp [getK, e] at h; exact List.mem_cons_of_mem _ (getK_mem h)
theorem getK_nodup : ∀ {ka : List (Key × EV)} {k : Key} {x : EV}, (ka.map (·.1)).Nodup → (k, x) ∈ ka → getK ka k = some x
  | (k', y) :: ka, k, x, hn, h => by
    rw [List.map_cons, List.nodup_cons] at hn
    rcases List.mem_cons.mp h with e | h
    · cases e; simp [getK]
    · have : k' ≠ k := fun z => hn.1 (z ▸ List.mem_map.mpr ⟨_, h, rfl⟩)
      simp [getK, this, getK_nodup hn.2 h]
theorem rpK_mem {K mg Hd eh H} : ∀ {ka : List (Key × EV)} {us : List (Key × V)}, RpK K mg Hd eh H ka us → ∀ {k : Key} {v : V}, (k, v) ∈ us → ∃ x, (k, x) ∈ ka ∧ Rp K mg Hd eh H x v
  | [], _, h, _, _, hm => by cases h; cases hm
  | (k', x') :: ka, _, ⟨v', r, e, p, t⟩, k, v, hm => by
    subst e
    rcases List.mem_cons.mp hm with e | hm
    · cases e; exact ⟨x', by simp, p⟩
    · obtain ⟨x, h1, h2⟩ := rpK_mem t hm
      exact ⟨x, by simp [h1], h2⟩
theorem kv_mem {us : List (Key × V)} {vs : List (Key × Value)} (h : KV us vs) : ∀ {k : Key} {u : Value}, (k, u) ∈ vs → ∃ v, (k, v) ∈ us ∧ RelV v u := by
  induction h with
  | nil => intro k u hm; cases hm
  | cons r _ ih =>
    rename_i p q us vs _
    intro k u hm
    rcases List.mem_cons.mp hm with e | hm
    · obtain ⟨e1, e2⟩ := r
      subst e
      exact ⟨p.2, List.mem_cons.mpr (.inl (Prod.ext e1.symm rfl)), e2⟩
    · obtain ⟨v, h1, h2⟩ := ih hm
      exact ⟨v, by simp [h1], h2⟩
theorem kv_keys {us : List (Key × V)} {vs : List (Key × Value)} (h : KV us vs) : vs.map (·.1) = us.map (·.1) := by
  induction h with
  | nil => rfl
  | cons r _ ih => simp [ih, r.1]
section
variable {X : Cx} {CX : CXT} {k np : Nat} {f C : Addr} {fd : FuncData} {ps : List Str} {F : FN} {cn : Str}
/-- o.m(k = v, ..): keywords alone -/
def mMethN (cn mn : Str) (F : FN) (N m : Nat) (gE : List EV → List EV → List EV) (ma : ME) (tk : MA) : ME := fun xc es eh q => ma xc es eh fun x eh1 => ∃ fs, insE eh1 x = some (cn, fs) ∧ fs.lookup mn = none ∧
  tk xc es eh1 fun zs eh2 => zs.length = m ∧ (gE [x] zs).length = N ∧ F xc (gE [x] zs) eh2 q
end
/-! ### an explicit list in a slot is frozen -/
def sFzV (i : Nat) (ms : MS) : MS := fun xc d es eh => ∃ p xs, es[i]? = some (some (.ref p)) ∧ eh p = some (.lst xs) ∧ ms xc d (es.set i (some (.lst xs))) (eupd eh p none)
theorem rs_fzV {X : Cx} {E : XK} {ss : List Stmt} {i : Nat} {ms : MS} (h : PSs X ss (US X.K X.mw E ms)) : PSs X ss (US X.K X.mw E (sFzV i ms)) := by
  refine ⟨fun pins s σ H D I w => ?_⟩
  obtain ⟨Hd, es, eh, xc, d, R, xo, ⟨p, xs, ei, ep, m⟩, k1, k2, k3, k4⟩ := w
  have st : Step eh H (eupd eh p none) H := ⟨fun a o ho hn _ => ⟨ho, by
    rw [eupd_ne fun z => by rw [z, ep] at hn; cases hn]; exact hn⟩, fun _ _ h => h, fun _ _ _ h => h⟩
  obtain ⟨vs, hp, rv⟩ := R.obj.ob p _ ep
  have nh : ¬ Hd p := fun z => by have := (R.obj.hd p z).2; rw [ep] at this; cases this
  have R' : Rh X.K X.mw Hd (eupd eh p none) H := ⟨R.obj.tb, fun a o e => by
    by_cases ha : a = p
    · subst ha; rw [eupd_same] at e; cases e
    · rw [eupd_ne ha] at e; exact (R.obj.ob a o e).step' st rfl, fun a z => by
    obtain ⟨q, n⟩ := R.obj.hd a z
    refine ⟨q, ?_⟩
    by_cases ha : a = p
    · subst ha; exact eupd_same
    · rw [eupd_ne ha]; exact n⟩
  obtain ⟨v, hv, rr⟩ := R.loc i _ ei
  cases rr
  have rl : Rl X.K X.mw Hd (eupd eh p none) H (es.set i (some (.lst xs))) σ := by
    have := (R.step st R').set (i := i) (x := .lst xs) (v := .ref p) ⟨p, vs, rfl, hp, ⟨eupd_same, nh⟩, rv.step st⟩
    have e : σ.set i (some (.ref p)) = σ := List.ext_getElem? fun j => by
      rw [List.getElem?_set]
      split
      · rename_i hj; subst hj
        split
        · exact hv.symm
        · rename_i hl; rw [List.getElem?_eq_none (by omega)]
      · rfl
    rwa [e] at this
  exact h.run pins s σ H D I ⟨Hd, _, _, xc, d, rl, xo.step st, m, fun es2 eh2 σ2 H2 s3 => k1 es2 eh2 σ2 H2 (st.trans s3), fun eh2 H2 x v s3 => k2 eh2 H2 x v (st.trans s3), fun es2 eh2 σ2 H2 s3 => k3 es2 eh2 σ2 H2 (st.trans s3), fun es2 eh2 σ2 H2 s3 => k4 es2 eh2 σ2 H2 (st.trans s3)⟩
end VM

/-! VMN: != of instances by the own __eq__; dicts: ==, !=, sorted, dict(d), displays. -/
namespace VM
open PySem PySem.Spec PyProof.Rows L2
def strKeysB (es : Array DictEntry) : Bool := es.all fun e => match e.key with | .str _ _ => true | _ => false
/-- a class over object alone with an own __eq__ and no own __ne__ -/
def isNB (K : PySem.W.Frag) (C : Addr) : Bool :=
  match List.lookup C K with
  | some ⟨.type t, _, .cls cd, sl⟩ => (t == "type") && ((match cd.mro with | [.ref c, .type o] => c == C && o == "object" | _ => false) && (!cd.hasDel &&
      ((match sl.toList with | [_, _, _, _, some (.builtin _), _] => true | _ => false) &&
      (match List.lookup cd.ns K with
       | some ⟨_, _, .dict es _, _⟩ => strKeysB es && (He.eqO (PySem.W.findIn K (.ref C) "__eq__") (some (nsFind es "__eq__")) && (nsFind es "__ne__").isNone)
       | _ => false))))
  | _ => false
section
variable {X : Cx} {k np : Nat} {f C : Addr} {fd : FuncData} {ps : List Str} {F : FN} {cn : Str}
/-! ### dicts compared -/
def cEqD (neg : Bool) : EO2 := fun x y eh q => ∃ ka kb, dctE eh x = some ka ∧ dctE eh y = some kb ∧ (∀ p ∈ ka, PD p.2) ∧ (∀ p ∈ kb, PD p.2) ∧ (ka.map (·.1)).Nodup ∧ (kb.map (·.1)).Nodup ∧ q (.bl (neg ^^ eqKV ka kb)) eh
theorem eq_hits {s : Shared} {A : Around} {Hd : Addr → Prop} {pins : List (Addr × Obj)} {σ : L2.St} {eh : Eh} {H : Hp} {ka kb : List (Key × EV)} {w1 w2 : List (Key × V)} {vs1 vs2 : List (Key × Value)} (hu : A.units + 41 < cLine) (I : Inv X pins σ H s) (R : Rh X.K X.mw Hd eh H)
    (da : ∀ p ∈ ka, PD p.2) (db : ∀ p ∈ kb, PD p.2) (na : (ka.map (·.1)).Nodup) (rk1 : RpK X.K X.mw Hd eh H ka w1) (rk2 : RpK X.K X.mw Hd eh H kb w2) (kv1 : KV w1 vs1) (kv2 : KV w2 vs2) :
    ∀ l : List (Key × Value), (∀ p ∈ l, p ∈ vs1) → PySem.W.KeqHits A s vs2 l (l.all fun p => (valueAt vs2 p.1).isSome && eK ka kb p.1)
  | [], _ => .nil
  | (k, v) :: r, h => by
    have ih := eq_hits hu I R da db na rk1 rk2 kv1 kv2 r fun p hp => h p (by simp [hp])
    obtain ⟨v1, hv1, rv1⟩ := kv_mem kv1 (h (k, v) (by simp))
    obtain ⟨x, hx, px⟩ := rpK_mem rk1 hv1
    have rel := kv2.val k
    rw [List.all_cons]
    cases hy : valueAt vs2 k with
    | none => simpa using PySem.W.KeqHits.miss hy
    | some y =>
      rw [hy] at rel
      cases hw : valV w2 k with
      | none => rw [hw] at rel; exact rel.elim
      | some v2 =>
        rw [hw] at rel
        cases gy : getK kb k with
        | none => rw [(lookup_valV rk2).2 gy] at hw; cases hw
        | some z =>
          obtain ⟨v2', hv2', pz⟩ := (lookup_valV rk2).1 z gy
          rw [hw] at hv2'; cases hv2'
          have gx := getK_nodup na hx
          obtain ⟨as, ra⟩ := (Dat.of eh (da _ hx).d).reads I R _ _ px rv1
          obtain ⟨bs, rb⟩ := (Dat.of eh (db _ (getK_mem gy)).d).reads I R _ _ pz rel
          have e : eK ka kb k = PyData.eqv (D x) (D z) := by simp only [eK, gx, gy]
          have hz : (D x).depth ≤ 40 := (da _ hx).z
          simp only [Option.isSome_some, Bool.true_and, e]
          exact .hit hy (SeqAt.eqAt_plain _ _ A s _ _ as bs ra rb (da _ hx).p (db _ (getK_mem gy)).p (by omega)) ih
theorem op_eqD {k : Nat} {neg : Bool} (hr : RoomG k X.A) : OpR X (compareOp (if neg then .NotEq else .Eq)) (U2 X.K X.mw (cEqD neg)) := by
  have hu := hr.units
  intro pins s σ H v u a b Q I r1 r2 h
  obtain ⟨Hd, eh, x, y, q, R, rx, ry, ⟨ka, kb, ex, ey, da, db, na, nb, m⟩, kk⟩ := h
  obtain ⟨d1, w1, rfl, h1, rk1⟩ := dct_of R rx ex
  obtain ⟨d2, w2, rfl, h2, rk2⟩ := dct_of R ry ey
  cases r1; cases r2
  obtain ⟨_, s1, vs1, kv1, do1⟩ := h1.ok I.hok
  obtain ⟨_, s2, vs2, kv2, do2⟩ := h2.ok I.hok
  have keys1 : vs1.map (·.1) = ka.map (·.1) := (kv_keys kv1).trans rk1.keys
  have keys2 : vs2.map (·.1) = kb.map (·.1) := (kv_keys kv2).trans rk2.keys
  have hits := eq_hits (A := X.A.in1) (vs2 := vs2) (by show X.A.units + 1 + 41 < cLine; omega) I R da db na rk1 rk2 kv1 kv2 vs1 fun _ h => h
  have eq : (vs1.length == vs2.length && vs1.all fun p => (valueAt vs2 p.1).isSome && eK ka kb p.1) = eqKV ka kb := by
    have l1 : vs1.length = ka.length := by simpa using congrArg List.length keys1
    have l2 : vs2.length = kb.length := by simpa using congrArg List.length keys2
    unfold eqKV
    rw [l1, l2, ← keys1, List.all_map]
    congr 1
    congr 1
    funext p
    show ((valueAt vs2 p.1).isSome && eK ka kb p.1) = ((getK kb p.1).isSome && eK ka kb p.1)
    rw [← lookup_some rk2, ← (kv2.val p.1).isSome_eq]
  cases neg with
  | false => exact PySem.W.keq_eq s1 s2 do1 do2 (by omega) (fun _ => hits) ⟨.bl _, H, I, rfl, kk eh H (.bl _) (.bl _) .refl R rfl (by rw [eq]; simpa using m)⟩
  | true => exact PySem.W.keq_ne s1 s2 do1 do2 (by omega) (fun _ => hits) ⟨.bl _, H, I, rfl, kk eh H (.bl _) (.bl _) .refl R rfl (by rw [eq]; simpa using m)⟩
/-! ### sorted(d), sorted(xs), dict(d) -/
def bSortD : EOL := fun xs eh q => match xs with
  | [x] => ∃ kvs ks, dctE eh x = some kvs ∧ kvs.map (·.1) = ks.map Sum.inr ∧ ks.length < 64 ∧ ∀ ys : List Str, ys.Perm ks → sortedS ys = true → q (.lst (ys.map .str)) eh
  | _ => False
theorem rpL_strs {K mg Hd eh H} : ∀ ys : List Str, RpL K mg Hd eh H (ys.map EV.str) (ys.map V.str)
  | [] => rfl
  | y :: ys => .cons rfl (rpL_strs ys)
theorem cb_sortD (hc : X.calm = true) : CallR X (.builtin "sorted") (UL X.K X.mw bSortD) := CallR.imp (call_sortedD hc) fun vs H Q ⟨Hd, eh, xs, q, R, rx, m, k⟩ => by
  unfold bSortD at m
  split at m
  · obtain ⟨kvs, ks, hy, e, hl, m⟩ := m
    obtain ⟨v, rfl, h⟩ := one_of rx
    obtain ⟨a, ws, rfl, hs, rr⟩ := dct_of R h hy
    exact ⟨a, ws, ks, rfl, hs, rr.keys.trans e, hl, fun ys p hp h2 hn => k eh _ (.lst (ys.map .str)) (.ref p) (.newF hn) (R.newF hn) ⟨p, _, rfl, upd_same, ⟨R.fresh hn, R.notHid hn⟩, rpL_strs ys⟩ (m ys hp h2)⟩
  · exact m.elim
def bSortS : EOL := fun xs eh q => match xs with
  | [x] => ∃ ks : List Str, lstE eh x = some (ks.map .str) ∧ ks.length < 64 ∧ ∀ ys : List Str, ys.Perm ks → sortedS ys = true → q (.lst (ys.map .str)) eh
  | _ => False
theorem rpL_strs_inv {K mg Hd eh H} : ∀ {ks : List Str} {vs : List V}, RpL K mg Hd eh H (ks.map EV.str) vs → vs = ks.map V.str
  | [], _, h => h
  | _ :: ks, _, ⟨v, r, e, h1, h2⟩ => by rw [e, rpL_strs_inv h2, show v = _ from h1]; rfl
theorem cb_sortS : CallR X (.builtin "sorted") (UL X.K X.mw bSortS) := CallR.imp cr_sortedS fun vs H Q ⟨Hd, eh, xs, q, R, rx, m, k⟩ => by
  unfold bSortS at m
  split at m
  · obtain ⟨ks, hy, hl, m⟩ := m
    obtain ⟨v, rfl, h⟩ := one_of rx
    obtain ⟨a, ws, rfl, hs, rr⟩ := lst_of R h hy
    obtain rfl := rpL_strs_inv rr
    exact ⟨a, ks, rfl, .of hs, hl, fun ys p hp h2 hn => k eh _ (.lst (ys.map .str)) (.ref p) (.newF hn) (R.newF hn) ⟨p, _, rfl, upd_same, ⟨R.fresh hn, R.notHid hn⟩, rpL_strs ys⟩ (m ys hp h2)⟩
  · exact m.elim
/-! ### written dicts with text keys -/
def mDisp (ks : List Str) (t : MA) : ME := fun xc es eh q => ∀ p, eh p = none → t xc es (eupd eh p (some (.dct []))) fun xs eh1 => eh1 p = some (.dct []) ∧ xs.length = ks.length ∧ q (.ref p) (eupd eh1 p (some (.dct ((ks.map Sum.inr).zip xs))))
def DispR (X : Cx) (E : XK) (pos : Pos) (keys : List (Option Expr)) (values : List Expr) (ks : List Str) (t : MA) : Prop :=
  ∃ trs, PPs X pos keys values trs ∧ ∀ σ H Q, UA X.K X.mw E t σ H (fun vs H' => Q ((ks.zip vs).map fun p => (V.str p.1, p.2)) H') → tPairs trs σ H Q
theorem disp_nil {E : XK} {pos : Pos} : DispR X E pos [] [] [] aNil :=
  ⟨[], pps_nil, fun σ H Q ⟨Hd, es, eh, xc, q, R, xo, m, k⟩ => k eh H [] [] .refl R.obj rfl m⟩
theorem disp_cons {E : XK} {pos : Pos} {z : Str} {j : Nat} {cp : Pos} {e : Expr} {keys : List (Option Expr)} {values : List Expr} {ks : List Str} {m : ME} {t : MA} (hv : PE X e (U X.K X.mw E m)) (h : DispR X E pos keys values ks t) :
    DispR X E pos (some (.Constant (.str z) j cp) :: keys) (e :: values) (z :: ks) (aCons m t) := by
  obtain ⟨trs, pp, g⟩ := h
  refine ⟨_, pps_cons pe_str hv pp, fun σ H Q ⟨Hd, es, eh, xc, q, R, xo, mm, kk⟩ => ?_⟩
  refine ⟨Hd, es, eh, xc, _, R, xo, mm, fun eh1 H1 x v s1 R1 r1 m1 => ?_⟩
  exact g σ H1 _ ⟨Hd, es, eh1, xc, _, R.step s1 R1, xo.step s1, m1, fun eh2 H2 xs vs s2 R2 r2 m2 => kk eh2 H2 (x :: xs) (v :: vs) (s1.trans s2) R2 (.cons (r1.step s2) r2) m2⟩
theorem mergeK_app : ∀ (kvs acc : List (Key × V)), ((acc ++ kvs).map (·.1)).Nodup → mergeK acc kvs = acc ++ kvs
  | [], acc, _ => by simp [mergeK]
  | (k, v) :: r, acc, h => by
    have hk : k ∉ acc.map (·.1) := fun z => by
      rw [List.map_append, List.nodup_append] at h
      exact h.2.2 k z k (by simp) rfl
    have e : putK acc k v = acc ++ [(k, v)] := by
      unfold putK
      rw [if_neg]
      simpa using hk
    show mergeK (putK acc k v) r = _
    rw [e, mergeK_app r (acc ++ [(k, v)]) (by simpa using h)]
    simp
theorem rpK_zip {K mg Hd eh H} : ∀ {ks : List Key} {xs : List EV} {vs : List V}, RpL K mg Hd eh H xs vs → RpK K mg Hd eh H (ks.zip xs) (ks.zip vs)
  | [], _, _, _ => by simp [RpK]
  | _ :: _, [], vs, r => by cases r; simp [RpK]
  | k :: ks, x :: xs, vs, ⟨v, r, e, h1, h2⟩ => by subst e; exact ⟨v, _, rfl, h1, rpK_zip h2⟩
theorem re_disp {E : XK} {pos : Pos} {keys : List (Option Expr)} {values : List Expr} {ks : List Str} {t : MA} (h : DispR X E pos keys values ks t) (hs : keys.all (·.isSome) = true := by rfl) (hl : keys.length = values.length := by rfl) (hne : keys ≠ [] := by simp) (h15 : keys.length ≤ 15 := by decide) (hk : ks.length ≤ 15 := by decide) (hn : ks.Nodup := by decide) :
    PE X (.Dict keys values pos) (U X.K X.mw E (mDisp ks t)) := by
  obtain ⟨trs, pp, g⟩ := h
  refine PE.imp (pe_disp pp hs hl hne h15) fun σ H Q ⟨Hd, es, eh, xc, q, R, xo, m, kk⟩ p hp => ?_
  have R0 : Rh X.K X.mw Hd (eupd eh p (some (.dct []))) (upd H p (.dK [])) := R.obj.new (eo := .dct []) hp ⟨[], upd_same, rfl⟩
  refine g σ _ _ ⟨Hd, es, _, xc, _, R.step (.new hp) R0, xo.step (.new hp), m p (R.obj.fresh hp), fun eh2 H2 xs vs s2 R2 r2 ⟨e1, hx, m2⟩ => ?_⟩
  obtain ⟨us, h2, t2⟩ := R2.ob p _ e1
  cases t2
  have hv : vs.length = ks.length := by rw [← r2.length, hx]
  refine ⟨h2, (ks.map Sum.inr).zip vs, ?_, by simp; omega, ?_⟩
  · rw [List.zip_map_left, List.map_map]; rfl
  · have nd : ((([] : List (Key × V)) ++ (ks.map (Sum.inr : Str → Key)).zip vs).map (·.1)).Nodup := by
      rw [List.nil_append, List.map_fst_zip (by simp; omega)]
      exact List.Pairwise.map (R := (· ≠ ·)) (S := (· ≠ ·)) (Sum.inr : Str → Key) (fun a b h e => h (Sum.inr.inj e)) hn
    rw [mergeK_app _ _ nd, List.nil_append]
    have st : Step eh2 H2 (eupd eh2 p (some (.dct ((ks.map Sum.inr).zip xs)))) (upd H2 p (.dK ((ks.map Sum.inr).zip vs))) := .write R2 e1
    exact kk _ _ (.ref p) (.ref p) ((Step.new hp).trans (s2.trans st)) (.write R2 e1 ⟨_, upd_same, rpK_zip (r2.step st)⟩) rfl m2
end
end VM

/-! VMX0: an own exception class over another own one over ValueError, whose inherited __init__(self, value) says super().__init__(value) and self.value = value: what its run leaves. -/
namespace VM
open PySem PySem.Spec PyProof.Rows L2
/-- no class of another's is laid -/
def StO (h : Heap) : Prop := ∃ o, h.get? cStatics = some o ∧ PySem.W.nsIn [(cStatics, o)] cStatics "thirdparty.any" = some none
theorem StO.keeps {h h' : Heap} (s : StO h) (k : ∀ b o, h.get? b = some o → h'.get? b = some o) : StO h' := let ⟨o, a, b⟩ := s; ⟨o, k _ _ a, b⟩
/-- the two statements -/
def InitForm (qual : Str) (body : List Stmt) (scope : Scope) : Prop := ∃ p0 p1 p2 p3 p4 p5 p6 p7 p8 p9, body = [.Expr (.Call (.Attribute (.Call (.Name "super" p0) [] [] p1) "__init__" p2) [.Name "value" p3] [] p4) p5, .Assign [.Attribute (.Name "self" p6) "value" p7] (.Name "value" p8) p9] ∧
    ∀ (L : Addr) (a : Addr) (cd : Value) (cc : Addr), (∃ pl : Sem Bool, eval (.Call (.Attribute (.Call (.Name "super" p0) [] [] p1) "__init__" p2) [.Name "value" p3] [] p4) (PySem.W.ksEnv qual scope L a cd cc) = (do
        let ov ← attributeBase (.Call (.Name "super" p0) [] [] p1) "__init__" (PySem.W.ksEnv qual scope L a cd cc) (eval (.Call (.Name "super" p0) [] [] p1) (PySem.W.ksEnv qual scope L a cd cc))
        standAt p2.atName
        let (fn, ahead) ← holding [ov] (getMethod ov "__init__" pl)
        callWith p4 fn ahead (backTo p4 (starEach [.Name "value" p3] (PySem.W.ksEnv qual scope L a cd cc))) [])) ∧
      swapsWith (.Call (.Attribute (.Call (.Name "super" p0) [] [] p1) "__init__" p2) [.Name "value" p3] [] p4) none p5.line (PySem.W.ksEnv qual scope L a cd cc) = pure false ∧
      swapsWith (.Name "value" p8) (some (.Attribute (.Name "self" p6) "value" p7)) p9.line (PySem.W.ksEnv qual scope L a cd cc) = pure false ∧ interactive (PySem.W.ksEnv qual scope L a cd cc) = false
/-- the def: its object, its code object, its cell (the class that holds it) -/
structure SInit (K : PySem.W.Frag) (P : Program) (mg : Str → Option Value) (f : Addr) (fd : FuncData) (D : Addr) (qual : Str) (params : Arguments) (body : List Stmt) (scope : Scope) : Prop where
  ex : ∃ (oc ccl cl : Value) (od cdd cld : Option Addr) (dV kV doc pm ct : Value) (an : Option Addr) (osl ccs csl : Array (Option Value)) (cc cda : Addr) (vs : Array Value) (tf : Tok) (ar : Arg) (cdD : ClassData),
    fd = PySem.W.ksFn "__init__" qual params body scope dV kV doc pm an (.ref cda) ct cc ∧ K.lookup f = some ⟨oc, od, .func fd, osl⟩ ∧ PySem.W.codeIn K (.ref cda) qual = true ∧
    K.lookup cda = some ⟨ccl, cdd, .fields vs, ccs⟩ ∧ vs[2]? = some (.str P.main.file tf) ∧ K.lookup cc = some ⟨cl, cld, .cell (some (.ref D)), csl⟩ ∧ PySem.W.clsIn K D = some cdD ∧
    (params.posonlyargs ++ params.args).head? = some ar ∧ ar.arg = "self"
  top : (P.main.scope.names.lookup ("super" : Str)).isSome = false
  sup : mg "super" = none
  ks : scope.names.lookup ("super" : Str) = some .globalImplicit
  kc : scope.names.lookup ("__class__" : Str) = some .free
  k1 : scope.names.lookup ("self" : Str) = some .local
  k2 : scope.names.lookup ("value" : Str) = some .local
  cell : ∀ x ∈ scope.names, x.2 ≠ .cell
  co : scope.isCoroutine = false
  gen : scope.isGenerator = false
  kind : scope.kind = .function
  bd : InitForm qual body scope
section
variable {K : PySem.W.Frag} {P : Program} {w : World} {mg : Str → Option Value} {B : Heap} {A : Around} {s : Shared} {f C D e t0 : Addr} {fd : FuncData} {qual : Str} {params : Arguments} {body : List Stmt} {scope : Scope} {u : Value} {args : Args} {R : Result → Shared → Prop}
end
end VM
namespace VM
open PySem PySem.Spec PyProof.Rows L2
end VM

/-! VMX1: such an exception made with its value by keyword; exceptions held as values. -/
namespace PySem
namespace XKw
open PySem.W PySem.Calls PyProof.Rows PySem.HandSPX
section
variable {M : Model} {A : Around} {E : Value → Shared → Prop} {h : Heap} {g : Array GenState} {d : Drawn} {t : Nat} {os : OsState}
variable {nm q : Str} {C N : Addr} {bs bm : List Value} {hdct : Bool} {sn : List Str} {sub : List Value} {ab : Bool} {col : Option Bool} {dd : Option Addr} {k0 k1 k2 k3 k5 : Option Value} {u : Value}
end
section
variable {prog : Program} {w : World} {A : Around} {E : Value → Shared → Prop} {R : Result → Shared → Prop} {h : Heap} {g : Array GenState} {d : Drawn} {t : Nat} {os : OsState}
variable {nm q : Str} {C N fI : Addr} {bs bm : List Value} {hdct : Bool} {sn : List Str} {sub : List Value} {ab : Bool} {col : Option Bool} {dd : Option Addr} {k0 k1 k2 k3 k5 : Option Value} {u : Value}
end
end XKw
end PySem

/-! VMX2: exceptions as values: made, asked by isinstance, their field value. -/
namespace VM
open PySem PySem.Spec PyProof.Rows L2
/-! ### what a class must say, as a check -/
def oexB (K : PySem.W.Frag) (C : Addr) : Bool := match K.lookup C with
  | some ⟨.type t, _, .cls cd, sl⟩ => (t == "type") && ((match cd.mro with | .ref c :: bm => c == C && PySem.HandSPX.refsVE bm | _ => false) && (cd.hasDict && (!cd.hasDel && (match sl.toList with | [_, _, _, _, some (.builtin b), _] => b == "ValueError.__new__" | _ => false))))
  | _ => false
def xisB (K : PySem.W.Frag) (C : Addr) : Bool :=
  He.eqO (PySem.W.findIn K (.ref C) "__getattribute__") (some (some (.builtin "BaseException.__getattribute__"))) && (He.eqO (PySem.W.findIn K (.ref C) "__getattr__") (some none) && (decide (PySem.W.subIn K (.ref C) (.type "BaseException") = some true) && (PySem.W.hasDictIn K C &&
  (He.eqO (PySem.W.findIn K (.ref C) "value") (some none) && (He.eqO (PySem.W.findIn K (.ref C) "__class__") (some (some (.builtin "object.__class__"))) && (He.eqO (PySem.W.specialIn K (.builtin "object.__class__") "__get__") (some (some (.builtin "getset_descriptor.__get__"))) &&
  (decide (PySem.W.takesIn K (.builtin "object.__class__") = some true) && (decide (PySem.W.mroIn K C (.type "object") = some true) && decide (PySem.W.kitOne K (.ref C) (.type "ValueError") = some true)))))))))
def sclsB (K : PySem.W.Frag) (C D : Addr) : Bool :=
  oexB K C && (He.eqO (PySem.W.findIn K (.ref C) "__setattr__") (some (some (.builtin "object.__setattr__"))) && (decide (PySem.W.typeIn K (.ref C) = some (.type "type")) && (PySem.W.keepIn K (.ref C) &&
  (decide (PySem.W.mroIn K C (.ref D) = some true) && (He.eqO (PySem.W.ks_superIn K C D "__init__") (some (some (.builtin "ValueError.__init__"))) && (decide (PySem.W.subIn K (.ref C) (.type "ValueError") = some true) &&
  (PySem.W.excInitIn K C [.type "ValueError", .type "Exception", .type "BaseException", .type "object"] "ValueError.__new__" && xisB K C)))))))
/-! ### made and held -/
section
variable {X : Cx} {pins : List (Addr × Obj)} {σ : L2.St} {H : Hp} {s s' : Shared} {u : Value} {E : XK} {e : Expr} {es : List Expr} {ta : TA} {C D f : Addr} {fd : FuncData} {x : Str} {p pos kp : Pos}
theorem Inv.same (I : Inv X pins σ H s) (hh : s'.heap = s.heap) (os : s'.os = s.os) (ag : AllBare s'.gens) : Inv X pins σ H s' := by
  obtain ⟨a1, a2, a3, a4, a5⟩ := s'
  dsimp only at hh os ag
  subst hh os
  exact ⟨I.ok, I.os, ag, I.base, I.loc, I.cell, I.free, I.freeC, I.pin, I.hok, I.len⟩
/-- the two ways of binding -/
structure SBind (fd : FuncData) : Prop where
  b1 : ∀ (s : Shared) (a u : Value), BindsTo s fd ⟨[a, u], []⟩ [("self", a), ("value", u)]
  b2 : ∀ (s : Shared) (a u : Value), BindsTo s fd ⟨[a], [("value", u)]⟩ [("self", a), ("value", u)]
theorem PA.wk {t : TA} (h : PA X es t) : PA X es (fun σ H Q => ∃ Qm, t σ H Qm ∧ ∀ vs H1, Qm vs H1 → Q vs H1) :=
  ⟨fun pos pins s σ H Q I ⟨Qm, w, i⟩ => wpAny_mono (h.run pos pins s σ H Qm I w) (fun us s1 ⟨xs, H1, J, r, q⟩ => ⟨xs, H1, J, r, i xs H1 q⟩) fun _ _ z => z⟩
end
end VM

/-! VMX3: shallow terms for exceptions as values, and their rules. -/
namespace VM
open PySem PySem.Spec PyProof.Rows L2
/-- is an instance of x one of y -/
def isX (x y : Str) : Bool := decide (x = y) || decide (y = "ReadError")
def mExc (cn : Str) (a : ME) : ME := fun xc s eh q => a xc s eh fun x eh1 => q (.exc cn x) eh1
def mXv (es : List Str) (a : ME) : ME := fun xc s eh q => a xc s eh fun x eh1 => ∃ C y, x = .exc C y ∧ C ∈ es ∧ q y eh1
section
variable {X : Cx} {E : XK} {e : Expr} {ma : ME} {p pos kp : Pos} {es : List Str} {f D : Addr} {cn : Str}
/-- d[k] += e of ints -/
def sDAugE (md mk mv : ME) : MS := fun xc d s eh => md xc s eh fun x eh1 => mk xc s eh1 fun y eh2 => ∃ p kvs key i, x = .ref p ∧ eh2 p = some (.dct kvs) ∧ keyE y = some key ∧ getK kvs key = some (.int i) ∧
  mv xc s eh2 fun z eh3 => ∃ j kvs', z = .int j ∧ eh3 p = some (.dct kvs') ∧ kvs'.length < sizeLine ∧ d.nx s (eupd eh3 p (some (.dct (putKE kvs' key (.int (i + j))))))
end
end VM

/-! VMX4: raise, calls that may raise, try .. except X as n whose exception is held. -/
namespace VM
open PySem PySem.Spec PyProof.Rows L2
/-! ### the hand layer: an except suite whose exception is tracked -/
section
variable {X : Cx} {pins : List (Addr × Obj)} {σ : L2.St} {H : Hp} {sI s s' : Shared} {B : Heap} {a : Addr} {oe : Obj} {vs : Array Value} {cls : Value} {d : Option Addr}
end
section
variable {X : Cx} {x n : Str} {c : Value} {i : Nat} {body suite : List Stmt} {b₀ : Stmt} {np pos pos' : Pos} {tb : WX → TS} {ts : Addr → TS}
end
/-! ### raise -/
section
variable {X : Cx} {E : XK} {e : Expr} {ma : ME} {p pos pos' : Pos} {es : List Str} {f D : Addr} {cn : Str}
end
/-! ### calls that may raise, at the slots as they stand -/
theorem XOk.tr {K mg Hd eh H xc} : XOk K mg (fun _ _ _ => True) Hd eh H xc := fun _ _ _ _ _ _ _ _ _ _ _ _ _ => trivial
section
variable {X : Cx} {W : WX} {k np : Nat} {f : Addr} {fd : FuncData} {ps : List Str} {F : FN} {dvs : List V} {ds : List Value} {dx : List EV} {x : Str} {p pos : Pos} {e : Expr} {es : List Expr} {t : MA} {m : ME}
end
/-! ### try -/
section
variable {X : Cx} {E : XK} {es : List Str} {f D : Addr} {cn n : Str} {i : Nat} {body suite : List Stmt} {b₀ : Stmt} {np pos pos' : Pos} {mb ms : MS}
end
end VM

/-! VMX5: dict.get, dict.pop with a default, str.split, list.index and list.count of bools, isinstance with a tuple of error classes, repr of dicts. -/
namespace VM
open PySem PySem.Spec PyProof.Rows L2
section
variable {X : Cx} {E : XK} {o e f : Expr} {ma mb mc : ME} {apos cpos : Pos}
/-! ### d.get(k, x), d.pop(k, x) -/
def dropKE (kvs : List (Key × EV)) (k : Key) : List (Key × EV) := kvs.filter fun kv => decide (kv.1 ≠ k)
theorem RpK.drop {K mg Hd} {eh : Eh} {H : Hp} {k : Key} : ∀ {xs : List (Key × EV)} {us : List (Key × V)}, RpK K mg Hd eh H xs us → RpK K mg Hd eh H (dropKE xs k) (dropK us k)
  | [], _, h => by cases h; rfl
  | (k', y) :: xs, _, ⟨w, r, e, h, t⟩ => by
    subst e
    have ih := RpK.drop (k := k) t
    by_cases hk : k' = k
    · have e1 : dropKE ((k', y) :: xs) k = dropKE xs k := by simp [dropKE, hk]
      have e2 : dropK ((k', w) :: r) k = dropK r k := by simp [dropK, hk]
      rw [e1, e2]; exact ih
    · have e1 : dropKE ((k', y) :: xs) k = (k', y) :: dropKE xs k := by simp [dropKE, hk]
      have e2 : dropK ((k', w) :: r) k = (k', w) :: dropK r k := by simp [dropK, hk]
      rw [e1, e2]; exact ⟨w, _, rfl, h, ih⟩
/-! ### x.split(b) -/
/-! ### bs.index(b), bs.count(b) of bools -/
/-! ### isinstance(e, (A, B, ..)) -/
/-! ### repr of a dict whose values hold no lists -/
end
end VM

/-! VMX6: sorted(xs) of data (tuples of the same build); calls that never raise within a try's body. -/
namespace VM
open PySem PySem.Spec PyProof.Rows L2
section
variable {X : Cx}
end
end VM

/-! VMX7: texts: partition, count, endswith, join, int(text), str(int), text * int, text[i]; a, b = list; calls of raising defs that are shown not to raise; [f(x)] in a try; == of texts in an except suite. -/
namespace VM
open PySem PySem.Spec PyProof.Rows L2
section
variable {X : Cx} {E : XK} {e : Expr} {ma : ME} {pos : Pos}
/-! ### methods of texts -/
/-! ### int(text), str(int) -/
/-! ### text * int -/
/-! ### text[i] -/
/-! ### a, b = list -/
/-! ### calls of defs that may raise, where they do not -/
/-! ### return [f(x)] in a try -/
/-! ### == of texts, anywhere -/
end
end VM

/-! VMX8: {k: v for ..}, list(d.values()), count of texts, list(range(n)), tuple(range(n)), dict(pairs), {e: f}. -/
namespace VM
open PySem PySem.Spec PyProof.Rows L2
/-! ### t[::-1] of a tuple -/
section
variable {prog : Program} {w : World} {A : Around} {E : Value → Shared → Prop} {s : Shared}
end
/-! ### {k: v for x in xs if t}: an explicit dict -/
def dcL (g : Tg) (tt : MT) (tk tv : ME) (vs : List Nat) (ok : Eh → Prop) (p : Addr) (q : KE) : List EV → Es → Eh → Prop
  | [], es, eh => ok eh ∧ q (.ref p) eh
  | x :: xs, es, eh => ok eh ∧ ∃ es', asg g x (wipeE es vs) = some es' ∧ tt xF es' eh fun b eh1 => match b with
    | true => tk xF es' eh1 fun y eh2 => tv xF es' eh2 fun z eh3 => ∃ kvs k, eh3 p = some (.dct kvs) ∧ keyE y = some k ∧ kvs.length < sizeLine ∧ dcL g tt tk tv vs ok p q xs es (eupd eh3 p (some (.dct (putKE kvs k z))))
    | false => dcL g tt tk tv vs ok p q xs es eh1
def mDComp (mi : MI) (g : Tg) (tt : MT) (tk tv : ME) (vs : List Nat) : ME := fun xc es eh q => mi xc es eh fun xs ok eh1 => ∀ p, eh1 p = none → dcL g tt tk tv vs ok p q xs es (eupd eh1 p (some (.dct [])))
section
variable {K : PySem.W.Frag} {mg : MW} {E : XK}
theorem dc_lift {mi : MI} {g : Tg} {tt : MT} {tk tv : ME} {vs : List Nat} (hv : ∀ i ∈ slots g, i ∈ vs) : ∀ σ H Q, U K mg E (mDComp mi g tt tk tv vs) σ H Q → tDc (UI K mg E mi) (UG K mg g) (UT K mg E0 tt) (U K mg E0 tk) (U K mg E0 tv) vs σ H Q :=
  fun σ H Q ⟨Hd, es, eh, xc, q, R, xo, m, k⟩ => ⟨Hd, es, eh, xc, _, R, xo, m, fun ehA HA xs ok J sA RA jo mA D hD => by
    have hh : ∀ a, Hd a → Hd a ∨ HA a = none := fun a z => .inl z
    have sN : Step ehA HA (eupd ehA D (some (.dct []))) (upd HA D (.dK [])) := .new hD
    have R0 : Rh K mg Hd (eupd ehA D (some (.dct []))) (upd HA D (.dK [])) := RA.new (eo := .dct []) hD ⟨[], upd_same, rfl⟩
    have RlA := R.step sA RA
    refine ⟨fun i n H => ∃ eh, i + n = xs.length ∧ Step ehA HA eh H ∧ Rh K mg Hd eh H ∧ dcL g tt tk tv vs ok D q (xs.drop i) es eh, ⟨xs.length, _, by omega, sN, R0, mA D (RA.fresh hD)⟩, ?_⟩
    rintro i n H ⟨eh, hn, s1, R1, f⟩
    cases hd : xs.drop i with
    | nil =>
      rw [hd] at f
      have : xs.length ≤ i := by simpa using hd
      exact .inl ⟨jo.stop i _ eh H hh s1.w R1 f.1 this, k eh H (.ref D) (.ref D) (sA.trans s1) R1 rfl f.2⟩
    | cons x r =>
      rw [hd] at f
      obtain ⟨hx, hr, hl⟩ := drop_cons hd
      obtain ⟨o, es', ea, f⟩ := f
      refine .inr ⟨jo.go i _ eh H hh s1.w R1 o hl, fun H => ∃ eh, (i + 1) + (n - 1) = xs.length ∧ Step ehA HA eh H ∧ Rh K mg Hd eh H ∧ dcL g tt tk tv vs ok D q (xs.drop (i + 1)) es eh, fun H' w => ⟨n - 1, by omega, w⟩, fun v H2 y => ?_⟩
      obtain ⟨x', hx', s2, R2, r2, kp⟩ := jo.yld i _ eh H v H2 hh s1.w R1 o hl y
      rw [hx] at hx'; cases hx'
      have Rs : Rl K mg Hd eh H2 es σ := RlA.step (s1.trans s2) R2
      refine ⟨_, wipeE es vs, eh, x, es', Rs.wipe vs, r2, ea, fun σ3 R3 l3 s3 => ⟨?_, _, es', eh, xF, _, R3, .no, f, fun eh4 H4 b s4 R4 f4 => ?_⟩⟩
      · refine (wipe_same (σ := wipe σ vs) l3 fun i hi => s3 i fun z => hi (hv i z)).trans wipe_wipe
      · cases b with
        | true =>
          refine iteT ⟨_, es', eh4, xF, _, R3.step s4 R4, .no, f4, fun eh5 H5 y v s5 R5 r5 f5 => ⟨_, es', eh5, xF, _, (R3.step s4 R4).step s5 R5, .no, f5, fun eh6 H6 z w s6 R6 r6 ⟨kvs, key, e1, e2, hz, f6⟩ => ?_⟩⟩
          obtain ⟨us, h, t⟩ := R6.ob D _ e1
          have st : Step eh6 H6 (eupd eh6 D (some (.dct (putKE kvs key z)))) (upd H6 D (.dK (putK us key w))) := .write R6 e1
          refine ⟨us, key, keyE_of r5 e2, h, by rw [← t.length]; exact hz, _, by omega, s1.trans (s2.trans (s4.trans (s5.trans (s6.trans st)))), .write R6 e1 ⟨_, upd_same, (t.step st).put (r6.step st)⟩, by rw [hr]; exact f6⟩
        | false => exact iteF ⟨eh4, by omega, s1.trans (s2.trans s4), R4, by rw [hr]; exact f4⟩⟩
end
section
variable {X : Cx} {E : XK} {e kx vx tg iter : Expr} {ifs : List Expr} {scope : Scope} {own : List (Str × Nat)} {ma mk mv : ME} {mi : MI} {g : Tg} {tt : MT} {p pos : Pos}
theorem re_dcomp (hc : X.calm = true) (hN : X.N.Nodup) (hi : PI X tg iter (UI X.K X.mw E mi)) (ok : BlkOk X.N X.env.scope scope own)
    (hg : ∀ (s : Shared) (H : Hp) (C : Addr) (cl : List (Str × Addr)) (fp : List Addr), PG (X.blk s H scope (compEnvC scope cl C X.env) fp) tg (UG X.K X.mw g)) (ht : ∀ (s : Shared) (H : Hp) (C : Addr) (cl : List (Str × Addr)) (fp : List Addr), PTs (X.blk s H scope (compEnvC scope cl C X.env) fp) ifs (UT X.K X.mw E0 tt))
    (hk : ∀ (s : Shared) (H : Hp) (C : Addr) (cl : List (Str × Addr)) (fp : List Addr), PE (X.blk s H scope (compEnvC scope cl C X.env) fp) kx (U X.K X.mw E0 mk)) (he : ∀ (s : Shared) (H : Hp) (C : Addr) (cl : List (Str × Addr)) (fp : List Addr), PE (X.blk s H scope (compEnvC scope cl C X.env) fp) vx (U X.K X.mw E0 mv))
    (hv : ∀ i ∈ slots g, i ∈ own.map (·.2) := by decide) (hs : ∀ x, foldedSetIterable iter X.env x = pure x := by intro _; rfl) :
    PE X (.DictComp kx vx [⟨tg, iter, ifs, 0⟩] scope pos) (U X.K X.mw E (mDComp mi g tt mk mv (own.map (·.2)))) :=
  PE.imp (pe_dc hc hN hi ok hg ht hk he hs) (dc_lift hv)
/-! ### list(range(n)), tuple(range(n)) -/
/-! ### xs.count(text) -/
/-! ### dict(pairs): a dict that nobody writes -/
def pairE : EV → Option (Key × EV)
  | .tup [x, y] => (keyE x).map fun k => (k, y)
  | _ => none
def pairsE : List EV → Option (List (Key × EV))
  | [] => some []
  | x :: r => match pairE x, pairsE r with
    | some p, some ps => some (p :: ps)
    | _, _ => none
def mergeE : List (Key × EV) → List (Key × EV) → List (Key × EV)
  | acc, [] => acc
  | acc, (k, v) :: r => mergeE (putKE acc k v) r
def bDictP : EOL := fun xs eh q => ∃ x ys ps, xs = [x] ∧ lstE eh x = some ys ∧ pairsE ys = some ps ∧ ∀ p, eh p = none → q (.ref p) (eupd eh p (some (.dct (mergeE [] ps))))
/-! ### dict(pairs) -/
theorem keyV_of {K : PySem.W.Frag} {mg : MW} {Hd : Addr → Prop} {eh : Eh} {H : Hp} : ∀ {ys : List EV} {vs : List V} {ps : List (Key × EV)}, RpL K mg Hd eh H ys vs → pairsE ys = some ps →
    ∃ (as : List Addr) (us : List (Key × V)), vs = as.map V.ref ∧ Paired (fun p kv => SqT K H p [kV kv.1, kv.2]) as us ∧ RpK K mg Hd eh H ps us
  | [], _, _, h, e => by cases h; cases e; exact ⟨[], [], rfl, .nil, rfl⟩
  | x :: ys, _, ps, ⟨v, r, ev, hx, hr⟩, e => by
    subst ev
    unfold pairsE at e
    cases hp : pairE x with
    | none => rw [hp] at e; cases e
    | some kv =>
      cases hps : pairsE ys with
      | none => rw [hp, hps] at e; cases e
      | some ps' =>
        rw [hp, hps] at e
        cases e
        obtain ⟨as, us, e1, e2, e3⟩ := keyV_of hr hps
        unfold pairE at hp
        split at hp
        · rename_i y z
          rw [Option.map_eq_some_iff] at hp
          obtain ⟨key, hk, rfl⟩ := hp
          obtain ⟨a, ws, rfl, ht, rt⟩ := hx
          obtain ⟨w1, w2, rfl, ry, rz⟩ := two_of rt
          refine ⟨a :: as, (key, w2) :: us, by rw [e1]; rfl, .cons ?_ e2, ⟨w2, us, rfl, rz, e3⟩⟩
          have := keyE_of ry hk
          subst this
          exact ht
        · cases hp
theorem rpK_merge {K : PySem.W.Frag} {mg : MW} {Hd : Addr → Prop} {eh : Eh} {H : Hp} : ∀ {ps : List (Key × EV)} {us acc' : List (Key × V)} {acc : List (Key × EV)}, RpK K mg Hd eh H ps us → RpK K mg Hd eh H acc acc' → RpK K mg Hd eh H (mergeE acc ps) (mergeK acc' us)
  | [], _, _, _, h, h' => by cases h; exact h'
  | (k, x) :: ps, _, _, _, ⟨v, r, e, hx, hr⟩, h' => by
    subst e
    exact (rpK_merge (ps := ps) hr (h'.put hx) :)
theorem cb_dictP (hc : X.calm = true) : CallR X (.type "dict") (UL X.K X.mw bDictP) := CallR.imp (call_dictP hc) fun vs H Q ⟨Hd, eh, xs, q, R, rx, ⟨x, ys, ps, ex, hy, hp, m⟩, k⟩ => by
  subst ex
  obtain ⟨v, rfl, rv⟩ := one_of rx
  obtain ⟨a, ws, rfl, ha, rr⟩ := lst_of R rv hy
  obtain ⟨as, us, rfl, pr, rk⟩ := keyV_of rr hp
  refine ⟨a, as, us, rfl, .inl (.inl ha), pr, fun p hpn => ?_⟩
  have st : Step eh H (eupd eh p (some (.dct (mergeE [] ps)))) (upd H p (.dK (mergeK [] us))) := .new hpn
  exact k _ _ (.ref p) (.ref p) st (R.new (eo := .dct (mergeE [] ps)) hpn ⟨_, upd_same, (rpK_merge rk (show RpK _ _ _ _ _ [] [] from rfl)).step st⟩) rfl (m p (R.fresh hpn))
/-! ### {e: f} -/
/-! ### list(d.values()) -/
end
end VM

/-! VMX9: list(zip(texts, xs)); t[::-1] as a rule. -/
namespace VM
open PySem PySem.Spec PyProof.Rows L2
/-- where the walk over a zip stands; the tuples given out are all kept -/
def ZlSt (z TI TO i1 i2 l1 l2 S : Addr) (xs ys : Array Value) (h : Heap) (i : Nat) : Prop :=
  IsPair h TI (.ref i1) (.ref i2) ∧ h.IsListIter i1 l1 i ∧ h.IsListIter i2 l2 i ∧ h.IsList l1 xs ∧ h.IsList l2 ys ∧
    ((IsZip h z TI TO .none ∧ ∃ a b, IsPair h TO a b) ∨ ∃ T f oT, PySem.IsZipHeld h z TI TO T f ∧ h.get? T = some oT ∧ T ≠ z ∧ T ≠ i1 ∧ T ≠ i2 ∧ T ≠ S)
section
variable {prog : Program} {w : World} {A : Around} {E : Value → Shared → Prop} {s : Shared} {z TI TO i1 i2 l1 l2 S : Addr} {xs ys : Array Value}
structure ZlAp (z TI TO i1 i2 l1 l2 S : Addr) : Prop where
  d : ZipApart z TI TO i1 i2 l1 l2
  sz : S ≠ z
  sTI : S ≠ TI
  sTO : S ≠ TO
  s1 : S ≠ i1
  s2 : S ≠ i2
  sl1 : S ≠ l1
  sl2 : S ≠ l2
theorem ZlSt.keep (ap : ZlAp z TI TO i1 i2 l1 l2 S) {h h' : Heap} {i : Nat} (st : ZlSt z TI TO i1 i2 l1 l2 S xs ys h i) (hk : ∀ b o, b ≠ S → h.get? b = some o → h'.get? b = some o) : ZlSt z TI TO i1 i2 l1 l2 S xs ys h' i := by
  obtain ⟨a1, a2, a3, a4, a5, a6⟩ := st
  refine ⟨hk _ _ (Ne.symm ap.sTI) a1, a2.at fun o e => hk _ o (Ne.symm ap.s1) e, a3.at fun o e => hk _ o (Ne.symm ap.s2) e, a4.at fun o e => hk _ o (Ne.symm ap.sl1) e, a5.at fun o e => hk _ o (Ne.symm ap.sl2) e, ?_⟩
  rcases a6 with ⟨b1, b2, b3, b4⟩ | ⟨T, f, oT, b1, b2, r1, r2, r3, r4⟩
  · exact .inl ⟨hk _ _ (Ne.symm ap.sz) b1, b2, b3, hk _ _ (Ne.symm ap.sTO) b4⟩
  · exact .inr ⟨T, f, oT, hk _ _ (Ne.symm ap.sz) b1, hk _ _ r4 b2, r1, r2, r3, r4⟩
/-- the tuples that the list holds -/
structure ZlG (xs ys : Array Value) (lo : Addr) (h : Heap) (as : List Addr) : Prop where
  rise : as.Pairwise (· < ·)
  above : ∀ a ∈ as, lo < a
  at_ : ∀ (j : Nat) (a : Addr), as[j]? = some a → ∃ x y, xs[j]? = some x ∧ ys[j]? = some y ∧ IsPair h a x y
theorem ZlG.keep {lo : Addr} {h h' : Heap} {as : List Addr} (g : ZlG xs ys lo h as) (hk : ∀ a ∈ as, ∀ o, h.get? a = some o → h'.get? a = some o) : ZlG xs ys lo h' as :=
  ⟨g.rise, g.above, fun j a hj => let ⟨x, y, e1, e2, e3⟩ := g.at_ j a hj; ⟨x, y, e1, e2, hk a (List.mem_of_getElem? hj) _ e3⟩⟩
theorem ZlG.lt {lo : Addr} {h : Heap} {as : List Addr} (g : ZlG xs ys lo h as) : ∀ a ∈ as, a < h.objs.size := fun a ha => by
  obtain ⟨j, hj⟩ := List.mem_iff_getElem?.mp ha
  obtain ⟨_, _, _, _, e⟩ := g.at_ j a hj
  exact Heap.lt_size e
theorem ZlG.snoc {lo : Addr} {h : Heap} {as : List Addr} {a : Addr} {x y : Value} (g : ZlG xs ys lo h as) (hlt : ∀ b ∈ as, b < a) (hlo : lo < a) (hx : xs[as.length]? = some x) (hy : ys[as.length]? = some y) (e : IsPair h a x y) : ZlG xs ys lo h (as ++ [a]) := by
  refine ⟨List.pairwise_append.mpr ⟨g.rise, List.pairwise_singleton _ _, fun b hb c hc => by rw [List.mem_singleton.mp hc]; exact hlt b hb⟩, fun b hb => ?_, fun j b hj => ?_⟩
  · rcases List.mem_append.mp hb with hb | hb
    · exact g.above b hb
    · rw [List.mem_singleton.mp hb]; exact hlo
  · rcases Nat.lt_trichotomy j as.length with c | c | c
    · rw [List.getElem?_append_left c] at hj
      exact g.at_ j b hj
    · subst c
      rw [List.getElem?_append_right (Nat.le_refl _), Nat.sub_self] at hj
      cases hj
      exact ⟨x, y, hx, hy, e⟩
    · rw [List.getElem?_eq_none (by rw [List.length_append, List.length_singleton]; omega)] at hj
      cases hj
end
section
variable {X : Cx} {pins : List (Addr × Obj)} {σ : L2.St} {H : Hp} {s : Shared}
end
section
variable {X : Cx} {E : XK} {e e2 : Expr} {ma : ME} {ta : MA} {p p2 pos pos2 : Pos}
end
/-! ### sorted(t) of a tuple of data -/
section
variable {prog : Program} {w : World} {A : Around} {E : Value → Shared → Prop} {s : Shared}
end
section
variable {X : Cx}
end
end VM

/-! VMX10: lists lent: within an expression some explicit lists are taken as frozen; behind it they are explicit again. -/
namespace VM
open PySem PySem.Spec PyProof.Rows L2
section
variable {K : PySem.W.Frag} {mg : MW} {Hd : Addr → Prop} {eh : Eh} {H : Hp} {S : Addr → Bool}
section
variable (hL : ∀ a, S a = true → ∃ vs, H a = some (.lst vs))
include hL
end
end
section
variable {X : Cx} {E : XK} {e : Expr}
end
end VM

/-! VMX11: list(d) to be written, list(text), dict(zip(texts, xs)), tuple * int, classes called with keywords alone. -/
namespace VM
open PySem PySem.Spec PyProof.Rows L2
section
variable {X : Cx} {E : XK} {e e2 : Expr} {ma : ME} {ta tk : MA} {p p2 pos pos2 : Pos}
/-! ### list(d), to be written -/
/-! ### list(text) -/
/-! ### tuple * int -/
/-! ### dict(zip(texts, xs)): a dict that may be written -/
/-! ### C(k=v, ..), keywords alone -/
end
end VM

/-! VMX12: isinstance of values of built-in kinds against an own class; == of an instance and such a value by the own __eq__. -/
namespace VM
open PySem PySem.Spec PyProof.Rows L2
section
variable {X : Cx} {k np : Nat} {f C : Addr} {fd : FuncData} {ps : List Str} {F : FN} {cn : Str}
end
end VM

/-! VMH0: iterators of lists and tuples that end while an exception is handled; tuples unpacked, comprehensions there. -/
namespace VM
open PySem PySem.Spec PyProof.Rows L2
section
variable {prog : Program} {w : World} {A : Around} {E : Value → Shared → Prop} {s : Shared} {x1 : Addr}
theorem HotAt.keep {h h' : Heap} (hot : HotX.HotAt A x1 h) (k : ∀ o, h.get? x1 = some o → h'.get? x1 = some o) : HotX.HotAt A x1 h' := by
  obtain ⟨a, o, vs, e, d, c⟩ := hot
  exact ⟨a, o, vs, k o e, d, c⟩
end
end VM

/-! VMH1: what runs while an exception is handled whose object is tracked: targets, comprehensions over lists, calls of defs. -/
namespace VM
open PySem PySem.Spec PyProof.Rows L2
/-- the exception at a is tracked -/
def HotE (a : Addr) (H : Hp) : Prop := ∃ cls d, H a = some (exh a cls d)
section
variable {X : Cx} {pins : List (Addr × Obj)} {σ : L2.St} {H : Hp} {s : Shared} {a : Addr}
theorem HotE.ne {b : Addr} (h : HotE a H) (n : H b = none) : a ≠ b := fun z => by
  obtain ⟨_, _, e⟩ := h
  rw [z, n] at e; cases e
end
end VM

/-! VMH2: the same by values: comprehensions over frozen lists, defs called while the exception .exa a C x is handled, except suites whose exception is named by its address. -/
namespace VM
open PySem PySem.Spec PyProof.Rows L2
/-! ### targets -/
section
variable {X : Cx} {a : Addr} {pos : Pos}
end
/-! ### comprehensions -/
section
variable {K : PySem.W.Frag} {mg : MW} {E : XK}
end
section
variable {X : Cx} {E : XK} {a : Addr} {elt tg iter : Expr} {ifs : List Expr} {scope : Scope} {own : List (Str × Nat)} {pos py spos : Pos} {ml : ME} {g : Tg} {tt : MT} {te : ME}
end
/-! ### defs called while the exception at a is handled -/
structure RoomH (k : Nat) (A : Around) : Prop where
  dp : A.depth + 3 * k + 5 < recursionLimit
  un : A.units + 16 * k + 200 < cLine
theorem RoomH.mono {i k : Nat} {A : Around} (r : RoomH k A) (l : i ≤ k) : RoomH i A := ⟨by have := r.dp; omega, by have := r.un; omega⟩
theorem RoomH.deeper {k : Nat} {A : Around} (r : RoomH (k + 1) A) (v : Env) : RoomH k (A.deeper v) := ⟨by have := r.dp; show A.depth + 1 + 3 * k + 5 < _; omega, by have := r.un; show A.units + 3 + 16 * k + 200 < _; omega⟩
section
variable {P : Program} {w : World} {K : PySem.W.Frag} {mg : Str → Option Value} {B : Heap} {k : Nat} {f : Addr} {fd : FuncData} {N ps : List Str} {z qual : Str} {params : Arguments} {body : List Stmt} {scope : Scope} {dvs : List V} {kws : List (Str × V)} {ms : Addr → MS}
end
/-! ### calls, except suites -/
section
variable {X : Cx} {E : XK} {a : Addr} {k np : Nat} {f : Addr} {fd : FuncData} {ps : List Str} {Fa : Addr → FN} {x : Str} {p pos : Pos} {e : Expr} {es : List Expr} {t : MA}
end
section
variable {X : Cx} {E : XK} {es : List Str} {f D : Addr} {cn n : Str} {i : Nat} {body suite : List Stmt} {b₀ : Stmt} {np pos pos' : Pos} {mb : MS} {ms : Addr → MS}
end
/-! ### the exception as a value; == of integers, subscripts of lists, anywhere -/
section
variable {X : Cx} {E : XK} {e : Expr} {m : ME}
end
end VM

/-! VMH3: instances made and methods called that may raise; list.insert, list * int. -/
namespace VM
open PySem PySem.Spec PyProof.Rows L2
section
variable {X : Cx} {W : WX} {k np : Nat} {f C : Addr} {fd : FuncData} {ps : List Str} {F : FN} {dvs : List V} {ds : List Value} {dx : List EV} {cn m : Str} {p pos apos : Pos} {o e : Expr} {es : List Expr} {t : MA}
end
/-! ### list.insert, list * int -/
section
variable {X : Cx}
end
end VM

/-! VMK1: x not in a list of tuples that hold explicit dicts and lists; lists against []; dict.update; displays with two computed keys. -/
namespace VM
open PySem PySem.Spec PyProof.Rows L2
/-! ### not in, each item by its own comparison -/
section
open SeqAt MeetsSeq MeetsSeq2 MeetsSeq3 SeqRoads2 AutoSeq1
variable {prog : Program} {w : World}
end
/-! ### comparisons of nested values at the level of EV -/
/-- x == y answers b, at most so deep -/
inductive EqE (eh : Eh) : Nat → EV → EV → Bool → Prop
  | same {n : Nat} {a : Addr} : EqE eh n (.ref a) (.ref a) true
  | dat {n : Nat} {x y : EV} {d e : PyData} : Dat eh x d → Dat eh y e → d.plain = true → e.plain = true → d.depth ≤ n → EqE eh n x y (PyData.eqv d e)
  | tup {n : Nat} {xs ys : List EV} {e : Nat → Bool} : xs.length = ys.length → (∀ (j : Nat) x y, xs[j]? = some x → ys[j]? = some y → EqE eh n x y (e j)) → EqE eh (n + 1) (.tup xs) (.tup ys) ((List.range xs.length).all e)
  | dct {n : Nat} {a b : Addr} {ka kb : List (Key × EV)} {e : Key → Bool} : a ≠ b → eh a = some (.dct ka) → eh b = some (.dct kb) → (ka.map (·.1)).Nodup → (∀ k x y, (k, x) ∈ ka → getK kb k = some y → EqE eh n x y (e k)) → EqE eh (n + 1) (.ref a) (.ref b) (ka.length == kb.length && ka.all fun p => (getK kb p.1).isSome && e p.1)
theorem relV_uniq {v w : V} {u : Value} (a : L2.RelV v u) (b : L2.RelV w u) : v = w := by
  cases v <;> cases w <;> simp only [L2.RelV] at a b <;>
    first
    | rfl
    | (subst a; cases b; rfl)
    | (obtain ⟨t, rfl⟩ := a; obtain ⟨t', h⟩ := b; cases h; rfl)
    | (subst a; cases b; done)
    | (subst a; obtain ⟨t', h⟩ := b; cases h; done)
    | (subst b; obtain ⟨t', h⟩ := a; cases h; done)
    | (obtain ⟨t, rfl⟩ := a; obtain ⟨t', h⟩ := b; cases h; done)
section
variable {X : Cx} {pins : List (Addr × Obj)} {σ : L2.St} {H : Hp} {s : Shared} {eh : Eh} {Hd : Addr → Prop}
/-- of one value -/
theorem EqE.one (I : Inv X pins σ H s) (R : Rh X.K X.mw Hd eh H) {n : Nat} {x y : EV} {b : Bool} (h : EqE eh n x y b) : ∀ v u, Rp X.K X.mw Hd eh H x v → Rp X.K X.mw Hd eh H y v → RelV v u → b = true := by
  induction h with
  | same => intros; rfl
  | dat dx dy px py _ =>
    intro v u r1 r2 rv
    obtain ⟨as, ra⟩ := dx.reads I R _ _ r1 rv
    obtain ⟨bs, rb⟩ := dy.reads I R _ _ r2 rv
    rw [SeqAt.plain_unique _ _ _ _ _ px ra rb]
    exact SeqAt.eqv_refl_plain _ py
  | @tup n xs ys e hl _ ih =>
    intro v u ⟨a, vs, ev, ha, t1⟩ ⟨a', vs', ev', ha', t2⟩ rv
    subst ev
    cases ev'
    obtain ⟨its, rr, ⟨o, e1, e2, nn, e3⟩, hz⟩ := I.tuple ha
    obtain ⟨its', rr', ⟨o', f1, f2, nn', f3⟩, hz'⟩ := I.tuple ha'
    rw [e1] at f1; cases f1
    rw [e3] at f3; cases f3
    refine List.all_eq_true.mpr fun j hj => ?_
    have hj := List.mem_range.mp hj
    have hx : xs[j]? = some xs[j] := List.getElem?_eq_getElem hj
    have hy : ys[j]? = some (ys[j]'(by omega)) := List.getElem?_eq_getElem (by omega)
    obtain ⟨w, hw, rw1⟩ := t1.get hx
    obtain ⟨w', hw', rw2⟩ := t2.get hy
    obtain ⟨z, hz1, q1⟩ := rr.get hw
    obtain ⟨z', hz2, q2⟩ := rr'.get hw'
    rw [hz1] at hz2; cases hz2
    obtain rfl := relV_uniq q1 q2
    exact ih j _ _ hx hy w z rw1 rw2 q1
  | dct hne =>
    intro v u r1 r2 rv
    cases r1
    cases r2
    exact absurd rfl hne
end
/-! ### x not in xs, x == [] -/
section
variable {X : Cx}
end
/-! ### d.update(e) -/
section
variable {X : Cx}
end
/-! ### {e: f, g: h} -/
section
variable {X : Cx} {E : XK} {pos : Pos} {k v k' v' : Expr} {m1 m2 m3 m4 : ME}
end
end VM

/-! VMK2: list * int to be written. -/
namespace VM
open PySem PySem.Spec PyProof.Rows L2
/-! ### an explicit dict's methods -/
def isDct (eh : Eh) (x : EV) : Prop := ∃ p kvs, x = .ref p ∧ eh p = some (.dct kvs)
theorem isDct_ty {K mg Hd eh H x v} (R : Rh K mg Hd eh H) (r : Rp K mg Hd eh H x v) (h : isDct eh x) : tyV K "dict" v H := by
  obtain ⟨p, kvs, rfl, h⟩ := h
  cases r
  obtain ⟨us, e, _⟩ := R.ob p _ h
  exact .inr (.inr (.inl ⟨rfl, .inl ⟨us, e⟩⟩))
section
variable {X : Cx}
end
/-! ### name = {k: v for ..}, the name a local -/
section
variable {X : Cx} {E : XK} {kx vx tg iter : Expr} {ifs : List Expr} {scope : Scope} {own : List (Str × Nat)} {mk mv : ME} {mi : MI} {g : Tg} {tt : MT} {pos : Pos}
end
end VM

/-! VMK3: dicts whose keys are tuples (EO.dN): d[k], k in d, d[k] = v, list(d), sorted(d), {k: v for ..}. -/
namespace VM
open PySem PySem.Spec PyProof.Rows L2
open PySem.W (EachIs)
def getN (kvs : List (NestedKey × EV)) (k : NestedKey) : Option EV := (kvs.find? fun p => decide (p.1 = k)).map (·.2)
def putN (kvs : List (NestedKey × EV)) (k : NestedKey) (v : EV) : List (NestedKey × EV) :=
  if (getN kvs k).isSome then kvs.map fun p => if p.1 = k then (p.1, v) else p else kvs ++ [(k, v)]
section
variable {K : PySem.W.Frag} {mg : MW} {Hd : Addr → Prop} {eh eh' : Eh} {H H' : Hp}
/-- the rows of the tree, of the object -/
def RowsN (K : PySem.W.Frag) (mg : MW) (Hd : Addr → Prop) (eh : Eh) (H : Hp) : List (NestedKey × EV) → List (NestedKey × Addr × Value) → Prop
  | [], xs => xs = []
  | (k, z) :: kvs, xs => ∃ a u v r, xs = (k, a, u) :: r ∧ KeyIs K H k (.ref a) ∧ k.depth ≤ 8 ∧ RelV v u ∧ Rp K mg Hd eh H z v ∧ RowsN K mg Hd eh H kvs r
theorem RowsN.of : ∀ {kvs : List (NestedKey × EV)} {xs : List (NestedKey × Addr × Value)} {us : List V}, kvs.map (·.1) = xs.map (·.1) → (∀ x ∈ xs, KeyIs K H x.1 (.ref x.2.1) ∧ x.1.depth ≤ 8) → Vals us (xs.map (·.2.2)) → RpL K mg Hd eh H (kvs.map (·.2)) us → RowsN K mg Hd eh H kvs xs
  | [], [], _, _, _, _, _ => rfl
  | [], _ :: _, _, e, _, _, _ => by simp at e
  | _ :: _, [], _, e, _, _, _ => by simp at e
  | (k, z) :: kvs, (k', a, u) :: xs, us, e, h, rv, rl => by
    simp only [List.map_cons, List.cons.injEq] at e
    obtain ⟨e1, e2⟩ := e
    cases e1
    obtain ⟨v, us', eu, r, t⟩ := rl
    subst eu
    cases rv with
    | cons h1 h2 => exact ⟨a, u, v, xs, rfl, (h (k, a, u) (by simp)).1, (h (k, a, u) (by simp)).2, h1, r, RowsN.of e2 (fun x hx => h x (by simp [hx])) h2 t⟩
theorem RowsN.out : ∀ {kvs : List (NestedKey × EV)} {xs : List (NestedKey × Addr × Value)}, RowsN K mg Hd eh H kvs xs → kvs.map (·.1) = xs.map (·.1) ∧ (∀ x ∈ xs, KeyIs K H x.1 (.ref x.2.1) ∧ x.1.depth ≤ 8) ∧ ∃ us, Vals us (xs.map (·.2.2)) ∧ RpL K mg Hd eh H (kvs.map (·.2)) us
  | [], _, h => by cases h; exact ⟨rfl, fun _ h => absurd h (by simp), [], Paired.nil, rfl⟩
  | (k, z) :: kvs, _, ⟨a, u, v, r, e, h1, h2, h3, h4, t⟩ => by
    subst e
    obtain ⟨i1, i2, us, i3, i4⟩ := t.out
    refine ⟨by simp [i1], fun x hx => ?_, v :: us, Paired.cons h3 i3, RpL.cons h4 i4⟩
    rcases List.mem_cons.mp hx with e | hx
    · subst e; exact ⟨h1, h2⟩
    · exact i2 x hx
theorem RowsN.step (s : Step eh H eh' H') : ∀ {kvs : List (NestedKey × EV)} {xs : List (NestedKey × Addr × Value)}, RowsN K mg Hd eh H kvs xs → RowsN K mg Hd eh' H' kvs xs
  | [], _, h => h
  | _ :: _, _, ⟨a, u, v, r, e, h1, h2, h3, h4, t⟩ => ⟨a, u, v, r, e, h1.ext fun _ _ w => SqT.step s w, h2, h3, h4.step s, t.step s⟩
theorem RowsN.get {k : NestedKey} : ∀ {kvs : List (NestedKey × EV)} {xs : List (NestedKey × Addr × Value)}, RowsN K mg Hd eh H kvs xs → match getN kvs k with
    | some z => ∃ a u v, atKey xs k = some (a, u) ∧ RelV v u ∧ Rp K mg Hd eh H z v
    | none => atKey xs k = none
  | [], _, h => by cases h; rfl
  | (k', z) :: kvs, _, ⟨a, u, v, r, e, h1, h2, h3, h4, t⟩ => by
    subst e
    by_cases hk : k' = k
    · have e1 : getN ((k', z) :: kvs) k = some z := by simp [getN, hk]
      rw [e1]
      exact ⟨a, u, v, by simp [atKey, hk], h3, h4⟩
    · have e1 : getN ((k', z) :: kvs) k = getN kvs k := by simp [getN, hk]
      have e2 : atKey ((k', a, u) :: r) k = atKey r k := by simp [atKey, hk]
      rw [e1, e2]
      exact t.get
theorem RowsN.map {k : NestedKey} {z : EV} {v : V} {u : Value} (rv : RelV v u) (rz : Rp K mg Hd eh H z v) : ∀ {kvs : List (NestedKey × EV)} {xs : List (NestedKey × Addr × Value)}, RowsN K mg Hd eh H kvs xs → RowsN K mg Hd eh H (kvs.map fun p => if p.1 = k then (p.1, z) else p) (xs.map (putAt k u))
  | [], _, h => by cases h; rfl
  | (k', z') :: kvs, _, ⟨a, u', v', r, e, h1, h2, h3, h4, t⟩ => by
    subst e
    by_cases hk : k' = k
    · subst hk
      simp only [List.map_cons, if_true]
      exact ⟨a, u, v, r.map (putAt k' u), by simp [putAt], h1, h2, rv, rz, t.map rv rz⟩
    · simp only [List.map_cons, if_neg hk]
      exact ⟨a, u', v', r.map (putAt k u), by simp [putAt, hk], h1, h2, h3, h4, t.map rv rz⟩
theorem RowsN.app : ∀ {kvs ls : List (NestedKey × EV)} {xs ys : List (NestedKey × Addr × Value)}, RowsN K mg Hd eh H kvs xs → RowsN K mg Hd eh H ls ys → RowsN K mg Hd eh H (kvs ++ ls) (xs ++ ys)
  | [], _, _, _, h, t => by cases h; exact t
  | _ :: _, _, _, _, ⟨a, u, v, r, e, h1, h2, h3, h4, t⟩, q => by subst e; exact ⟨a, u, v, r ++ _, rfl, h1, h2, h3, h4, t.app q⟩
theorem RowsN.put {k : NestedKey} {b : Addr} {z : EV} {v : V} {u : Value} {kvs : List (NestedKey × EV)} {xs : List (NestedKey × Addr × Value)} (h : RowsN K mg Hd eh H kvs xs) (kb : KeyIs K H k (.ref b)) (hd : k.depth ≤ 8) (rv : RelV v u) (rz : Rp K mg Hd eh H z v) :
    RowsN K mg Hd eh H (putN kvs k z) (storedH xs k b u) := by
  have g := h.get (k := k)
  unfold putN storedH
  cases e : getN kvs k with
  | none =>
    rw [e] at g
    rw [g]
    exact h.app ⟨b, u, v, [], rfl, kb, hd, rv, rz, rfl⟩
  | some y =>
    rw [e] at g
    obtain ⟨a, w, _, e2, _⟩ := g
    rw [e2]
    exact h.map rv rz
theorem RowsN.length : ∀ {kvs : List (NestedKey × EV)} {xs : List (NestedKey × Addr × Value)}, RowsN K mg Hd eh H kvs xs → kvs.length = xs.length
  | [], _, h => by cases h; rfl
  | _ :: _, _, ⟨a, u, v, r, e, h1, h2, h3, h4, t⟩ => by subst e; simp [t.length]
end
section
variable {X : Cx} {pins : List (Addr × Obj)} {σ : L2.St} {H : Hp} {s : Shared} {Hd : Addr → Prop} {eh : Eh}
/-- what the state says of a dict with tuple keys -/
theorem Rh.dN (R : Rh X.K X.mw Hd eh H) {p : Addr} {kvs : List (NestedKey × EV)} (h : eh p = some (.dN kvs)) :
    ∃ xs, H p = some (dictN X.w p xs) ∧ (p == sysModules) = false ∧ xs.length ≤ sizeLine ∧ RowsN X.K X.mw Hd eh H kvs xs := by
  obtain ⟨xs, us, h1, h2, h3, h4, h5, h6, h7⟩ := R.ob p _ h
  exact ⟨xs, h1, h2, h3, .of h4 h5 h6 h7⟩
end
section
variable {X : Cx} {E : XK} {e o c kx vx tg iter : Expr} {ma mb mv mk : ME} {pos pos' : Pos}
end
end VM

/-! VMK4: list(d), sorted(d) of dicts with tuple keys; comprehensions that make them. -/
namespace VM
open PySem PySem.Spec PyProof.Rows L2
section
variable {X : Cx} {pins : List (Addr × Obj)} {σ : L2.St} {H : Hp} {s : Shared} {Hd : Addr → Prop} {eh : Eh}
end
section
variable {prog : Program} {w : World} {A : Around} {E : Value → Shared → Prop} {s : Shared}
end
section
variable {X : Cx} {pins : List (Addr × Obj)} {σ : L2.St} {H : Hp} {s : Shared} {Hd : Addr → Prop} {eh : Eh}
end
end VM

/-! VMK5: {k: v for ..} with tuple keys. -/
namespace VM
open PySem PySem.Spec PyProof.Rows L2
section
variable {X : Cx} {pins : List (Addr × Obj)} {σ : L2.St} {H : Hp} {s : Shared}
end
/-! ### the shallow term -/
section
variable {X : Cx} {E : XK}
variable {kx vx tg iter : Expr} {ifs : List Expr} {scope : Scope} {own : List (Str × Nat)} {mk mv : ME} {mi : MI} {g : Tg} {tt : MT} {pos : Pos}
end
end VM

/-! VMK6: d.setdefault(k, v); min(d) of a dict with text keys (one of its keys). -/
namespace VM
open PySem PySem.Spec PyProof.Rows L2
section
variable {X : Cx} {E : XK} {o e f : Expr} {ma mb mc : ME} {apos cpos : Pos}
end
end VM

/-! VMK7: list * int where the list can be long; tuple + tuple, any of them empty. -/
namespace VM
open PySem PySem.Spec PyProof.Rows L2
section
variable {X : Cx}
end
end VM

/-! VMK8: dicts with tuple keys, frozen (EV.dn): walked; {k: v}; dict(zip(tuples, xs)). -/
namespace VM
open PySem PySem.Spec PyProof.Rows L2
/-! ### for k in d -/
section
variable {X : Cx} {pins : List (Addr × Obj)} {σ : L2.St} {H : Hp} {s : Shared}
end
section
variable {K : PySem.W.Frag} {mg : MW} {Hd : Addr → Prop} {eh0 : Eh} {H0 : Hp}
end
section
variable {X : Cx} {E : XK} {tg e e2 : Expr} {ma mb mk mv : ME} {ta : MA} {pos p p2 pos2 : Pos}
/-! ### {k: v} -/
/-! ### dict(zip(tuples, xs)) -/
end
end VM

/-! VMK9: x or y, x and y as values, by truth. -/
namespace VM
open PySem PySem.Spec PyProof.Rows L2
section
variable {X : Cx} {E : XK} {a b : Expr} {ma mb : ME} {pos : Pos} {rest : List Expr}
end
end VM

/-! VMK10: zip of a list and a tuple, or a tuple and a list. -/
namespace VM
open PySem PySem.Spec PyProof.Rows L2
section
variable {X : Cx} {pins : List (Addr × Obj)} {σ : L2.St} {H : Hp} {s : Shared}
end
section
variable {K : PySem.W.Frag} {mg : MW} {Hd : Addr → Prop} {eh0 : Eh} {H0 : Hp}
end
section
variable {X : Cx} {E : XK} {tg e e2 : Expr} {pos p : Pos}
end
end VM

/-! VMK11: repr of frozen data with dicts in it; list + list to be written. -/
namespace VM
open PySem PySem.Spec PyProof.Rows L2
section
variable {X : Cx} {pins : List (Addr × Obj)} {σ : L2.St} {H : Hp} {s : Shared} {Hd : Addr → Prop} {eh : Eh}
end
section
variable {X : Cx}
/-! ### xs.reverse(), d.pop(k) -/
variable {E : XK} {o e : Expr} {ma mb : ME} {apos cpos : Pos}
end
/-! ### what an explicit list in a slot holds is frozen -/
end VM

/-! VMK12: sorted(set(xs)) of texts. -/
namespace VM
open PySem PySem.Spec PyProof.Rows L2 PySem.Froz
/-- what set() makes -/
def vacant (led : Bool) : Obj := { cls := .type "set", dict := none, data := .set #[] 0 (.fresh 0 0 led) }
/-- at a stands a set of the texts l that can be gone through -/
def Txs (P : Program) (w : World) (h : Heap) (a : Addr) (l : List Str) : Prop :=
  l.Nodup ∧ ∃ D : SD, h.get? a = some (sObj "set" D) ∧ TxOk P w D l ∧ Ris D.2.2.place.toList ∧ (w.params.followText "set-order" = true ∨ D.2.2.led = true)
theorem Txs.keep {P : Program} {w : World} {h h' : Heap} {a : Addr} {l : List Str} (T : Txs P w h a l) (k : ∀ o, h.get? a = some o → h'.get? a = some o) : Txs P w h' a l := by
  obtain ⟨n, D, e, z⟩ := T
  exact ⟨n, D, k _ e, z⟩
theorem vacant_txs {P : Program} {w : World} {h : Heap} {a : Addr} (e : h.get? a = some (vacant (!w.params.followText "set-order"))) : Txs P w h a [] := by
  refine ⟨by simp, (#[], 0, .fresh 0 0 (!w.params.followText "set-order")), e, .nil rfl, List.Pairwise.nil, ?_⟩
  show w.params.followText "set-order" = true ∨ (!w.params.followText "set-order") = true
  cases w.params.followText "set-order" <;> simp
theorem tailTx_more {ep : Nat} {es : Array (Int × Value)} {t : SetTable} {wd b : Bool} (r : Ris t.place.toList) (e : t.led = b) : Ris (tailTx ep es t wd).2.2.place.toList ∧ (tailTx ep es t wd).2.2.led = b := by
  unfold tailTx
  split
  · exact ⟨relayAll_ris _ _ _, (relayAll_led _ _ _).trans e⟩
  · exact ⟨r, e⟩
theorem addTx_more {h : Int} {v : Value} {D : SD} (r : Ris D.2.2.place.toList) : Ris (addTx h v D).2.2.place.toList ∧ (addTx h v D).2.2.led = D.2.2.led := by
  have q1 := layNew_ris D.2.2 D.1 h v r
  have q2 := layNew_led D.2.2 D.1 h v
  unfold addTx
  exact tailTx_more (by split <;> exact q1) (by split <;> exact q2)
theorem perm_in : ∀ {l m : List Str}, l.Nodup → (∀ x ∈ l, x ∈ m) → m.length ≤ l.length → m.Perm l
  | [], m, _, _, h => by
    have := List.eq_nil_of_length_eq_zero (Nat.le_zero.mp h)
    subst this; exact .refl _
  | x :: l, m, hn, hs, h => by
    have p := List.perm_cons_erase (hs x (by simp))
    obtain ⟨n1, n2⟩ := List.nodup_cons.mp hn
    exact p.trans ((perm_in n2 (fun y hy => (List.mem_erase_of_ne (fun (z : y = x) => n1 (by rw [← z]; exact hy))).mpr (hs y (by simp [hy]))) (by have := p.length_eq; simp at this h; omega)).cons x)
theorem len_in : ∀ {l m : List Str}, l.Nodup → (∀ x ∈ l, x ∈ m) → l.length ≤ m.length
  | [], _, _, _ => by simp
  | x :: l, m, hn, hs => by
    have p := List.perm_cons_erase (hs x (by simp))
    obtain ⟨n1, n2⟩ := List.nodup_cons.mp hn
    have := len_in n2 (m := m.erase x) (fun y hy => (List.mem_erase_of_ne (fun (z : y = x) => n1 (by rw [← z]; exact hy))).mpr (hs y (by simp [hy])))
    have := p.length_eq; simp at this ⊢; omega
section
variable {P : Program} {w : World} {s : Shared} {A : Around} {E : Value → Shared → Prop}
/-- a text that is there -/
theorem put_there {a : Addr} {D : SD} {l : List Str} {k : Str} {u : Tok} {Q : Bool → Shared → Prop} (e : s.heap.get? a = some (sObj "set" D)) (F : TxOk P w D l) (hk : k ∈ l) (hb : l.length < scanBound) (q : Q false s) :
    wpAny (model P w) A (setAddHashed a (.str k u) (hashStr w k)) Q E s := by
  obtain ⟨es, ep, t⟩ := D
  have dt : (sObj "set" (es, ep, t)).data = .set es ep t := rfl
  have zz : es.size = l.length := F.sz
  unfold setAddHashed setAddHashedIn; refine wpAny_holding (wpAny_bind (wpAny_setState_of e dt F.fit ?_)); dsimp only
  rw [byScan_of (x := Value.str k u) rfl (by show es.size < scanBound; omega) F.el]; simp only [↓reduceIte]
  unfold setAddByScan
  refine wpAny_bind (wpAny_bind (wpAny_rule (wpAny_bind (wpAny_setScan_of (knd := strKind P w) (k := k) (is_str k u) e dt F.fit F.el ?_))))
  cases hf : List.findIdx? (fun e => (strKind P w).is k e.2) es.toList with
  | some j => exact wpAny_pure (wpAny_pure q)
  | none =>
    obtain ⟨y, hy, hz⟩ := (F.mem k).mp hk
    have := List.findIdx?_eq_none_iff.mp hf y hy
    rw [hz] at this; cases this
/-- a text more -/
theorem txs_put {a : Addr} {l : List Str} {k : Str} {u : Tok} {Q : Bool → Shared → Prop} (T : Txs P w s.heap a l) (room : l.length + 1 < scanBound)
    (q : ∀ (b : Bool) (h' : Heap) (l' : List Str), (∀ c, c ≠ a → h'.get? c = s.heap.get? c) → Txs P w h' a l' → (∀ x, x ∈ l' ↔ x ∈ l ∨ x = k) → l'.length ≤ l.length + 1 → Q b { s with heap := h' }) :
    wpAny (model P w) A (setAddHashed a (.str k u) (hashStr w k)) Q E s := by
  obtain ⟨nd, D, e, F, r, ld⟩ := id T
  by_cases hk : k ∈ l
  · exact put_there e F hk (by omega) (q false s.heap l (fun _ _ => rfl) T (fun x => ⟨.inl, fun z => z.elim id fun y => y ▸ hk⟩) (Nat.le_succ _))
  · refine add_x e F hk room (q true _ (k :: l) (fun c hc => Heap.get?_update_other _ _ (Ne.symm hc)) ⟨List.nodup_cons.mpr ⟨hk, nd⟩, _, get_upd _ e rfl, add_ok u F, (addTx_more r).1, ld.imp id fun z => (addTx_more r).2.trans z⟩ (fun x => ?_) (Nat.le_refl _))
    rw [List.mem_cons, Or.comm]
/-- all the texts of a walk -/
theorem txs_fill {I : Addr} {fp wr : List Addr} {G : Array GenState → Array GenState → Prop} {n : Nat} {Pv : Nat → Value → Prop} {St : Nat → Shared → Prop} {R : Result → Shared → Prop} (W : WalksS P w A.in1 I fp wr G n Pv St)
    (a : Addr) (af : a ∉ fp) (ws : List Str) (hn : n = ws.length) (hb : ws.length + 1 < scanBound) (look : ∀ i v, Pv i v → ∃ k t, ws[i]? = some k ∧ v = .str k t) : ∀ (m i : Nat) (s : Shared), n - i = m → i ≤ n → St i s →
      (∃ l, Txs P w s.heap a l ∧ l.length ≤ i ∧ ∀ x, x ∈ l ↔ x ∈ ws.take i) → (∀ s' l, Moved (a :: wr) G s s' → Txs P w s'.heap a l → (∀ x, x ∈ l ↔ x ∈ ws) → R (.ok (.ret .none)) s') →
      codeAny (model P w) A (.builtin "set.update.loop" ⟨[.ref a, .ref I], []⟩) R s := by
  have aw : a ∉ wr := fun z => af (W.sub _ z)
  have more : ∀ b ∈ wr, b ∈ a :: wr := fun b z => .tail _ z
  intro m
  induction m with
  | zero =>
    intro i s hm hi st ⟨l, T, _, hx⟩ k
    obtain rfl : i = n := by omega
    refine codeAny_builtin F.entry_set_update_loop (?_ : wpAny _ _ _ _ _ _); rw [Around.under_plainId F.plain_set_update_loop _]
    refine wpAny_bind (W.done s _ _ st fun s' mv => (?_ : wpAny _ A.in1 (ret Value.none) _ _ s'))
    rw [List.take_of_length_le (by omega)] at hx
    exact wpAny_pure (k s' l (mv.mono more) (T.keep fun o z => mv.heap a o aw z) hx)
  | succ m ih =>
    intro i s hm hi st ⟨l, T, hl, hx⟩ k
    refine codeAny_builtin F.entry_set_update_loop (?_ : wpAny _ _ _ _ _ _); rw [Around.under_plainId F.plain_set_update_loop _]
    refine wpAny_bind (W.item i s _ _ (by omega) st fun v s' hv st' mv => ?_)
    obtain ⟨z, t, hz, rfl⟩ := look i v hv
    have T' : Txs P w s'.heap a l := T.keep fun o y => mv.heap a o aw y
    show wpAny _ A.in1 (holding [Value.str z t] (setAdd a (.str z t)) >>= _) _ _ s'
    refine wpAny_bind (wpAny_holding ?_); unfold setAdd
    refine wpAny_holding (wpAny_bind ((strKind P w).pyHash (k := z) (is_str z t) ?_))
    refine txs_put (s := { s' with toks := s'.toks + 1 }) T' (by omega) fun b h' l' ot T2 hx2 hl2 => ?_
    refine wpAny_pure ⟨plainId_quiet F.plain_set_update_loop _, ih (i + 1) _ (by omega) (by omega) (W.frame _ s' _ _ st' (Nat.le_succ _) fun c hc o y => ?_) ⟨l', T2, by omega, fun x => ?_⟩ fun s2 l2 mv2 T3 hx3 => k s2 l2 ?_ T3 hx3⟩
    · rw [ot c fun y2 => af (y2 ▸ hc)]; exact y
    · rw [hx2 x, hx x, List.take_add_one, hz, List.mem_append]; simp
    · refine Moved.trans W.gtrans ((mv.mono more).then_heap (Nat.le_succ _) fun c o hc y => ?_) mv2
      rw [ot c fun y2 => hc (y2 ▸ .head _)]; exact y
theorem strs_at : ∀ {vs : List Value} {ws : List Str}, StrsAre vs ws → ∀ (i : Nat) (v : Value), vs[i]? = some v → ∃ k t, ws[i]? = some k ∧ v = .str k t
  | _, _, .nil, i, v, e => by simp at e
  | _, _, .cons x t _, 0, v, h => by simp at h; exact ⟨x, t, rfl, h.symm⟩
  | _, _, .cons x t r, i + 1, v, h => by simpa using strs_at r i v (by simpa using h)
/-- set(xs), xs a list of texts -/
theorem set_made {l : Addr} {items : Array Value} {ws : List Str} {Q : Value → Shared → Prop} (hh : A.handled = none) (hl : s.heap.IsList l items) (hi : StrsAre items.toList ws) (hb : ws.length + 1 < scanBound)
    (q : ∀ (h' : Heap) (tk : Nat) (l' : List Str), Txs P w h' s.heap.objs.size l' → (∀ x, x ∈ l' ↔ x ∈ ws) → (∀ b o, s.heap.get? b = some o → h'.get? b = some o) → Q (.ref s.heap.objs.size) { s with heap := h', toks := tk }) :
    wpAny (model P w) A (call (.type "set") [.ref l]) Q E s := by
  have isz : items.size = ws.length := by have := StrsAre.length hi; rwa [Array.length_toList] at this
  obtain ⟨c0, t0, r0⟩ := F.called_set.mro
  have f1 := F.called_set.made; have f2 := F.called_set.sub; have f3 := F.called_set.notType; have f4 := F.called_set.canCreate; have f5 := F.typeCall_set_1 (.ref l)
  refine wpAny_call (codeAny_of_tree ?_); show wpAny _ _ (callAny (.type "set") _) _ _ _
  refine wpAny_pure ⟨Code.quiet_builtin _ (by decide +kernel), codeAny_builtin F.entry_type_call ?_⟩; rw [Around.under_plain (weight_type_call_type "set" [.ref l] []) rfl]
  repeat any_goals first | assumption | wp_step
  have lz : l < s.heap.objs.size := by obtain ⟨o, ho, _⟩ := hl; exact Heap.lt_size ho
  refine codeAny_mono (code_set_led1 (.ref l) (E := E) (Q₁ := fun y s1 => y = .ref s.heap.objs.size ∧ s1 = { s with heap := s.heap.push (vacant (!w.params.followText "set-order")) }) ⟨rfl, rfl⟩) fun r s1 hr => ?_
  match r, hr with
  | .error e, hr => exact hr
  | .ok (.ret y), ⟨hy, hs1⟩ =>
    subst hy; subst hs1
    have hS : (s.heap.push (vacant (!w.params.followText "set-order"))).get? s.heap.objs.size = some (vacant (!w.params.followText "set-order")) := Heap.get?_push_size _ rfl
    have z1 : (s.heap.push (vacant (!w.params.followText "set-order"))).objs.size = s.heap.objs.size + 1 := size_push' _ _
    have hl1 : (s.heap.push (vacant (!w.params.followText "set-order"))).IsList l items := hl.push _
    have hT : Shared.TypeIs { s with heap := s.heap.push (vacant (!w.params.followText "set-order")) } (.ref s.heap.objs.size) "set" := ⟨_, hS, rfl⟩
    have g1 := F.called_set.init.lookup; have g2 := F.called_set.init.bind (.ref s.heap.objs.size)
    generalize hV : (!w.params.followText "set-order") = V at hS z1 hl1 hT ⊢
    unfold vacant at hS z1 hl1 hT ⊢
    repeat any_goals first | assumption | wp_step
    refine codeAny_mono (codeAny_call_builtin (R := wants (fun y s2 => y = .none ∧ ∃ h' tk l', s2 = { s with heap := h', toks := tk } ∧ Txs P w h' s.heap.objs.size l' ∧ (∀ x, x ∈ l' ↔ x ∈ ws) ∧ ∀ b o, s.heap.get? b = some o → h'.get? b = some o) E)
      F.called_set.init.plain F.entry_set_init (check_set_init_1 hT ?_)) fun r2 s2 hr2 => ?_
    · obtain ⟨ol, hol, hcl, nl, hdl⟩ := id hl1
      obtain ⟨oc, od, oa, oz⟩ := ol; simp only at hcl hdl; subst hcl; subst hdl
      have k1 := F.sub_list_set; have k2 := F.sub_list_frozenset
      have k3 : (Value.type "list" == Value.type "dict") = false := by decide
      unfold Builtin.«set.__init__» noKeywords Builtin.Frozenset.updateFrom; generalize hPI : pyIter = PI
      wp_walk
      subst hPI
      refine wpAny_pyIter_list hl1 ?_; refine wpAny_bind (wpAny_runValue ?_)
      have nI : l ≠ (s.heap.push (vacant V)).objs.size := by unfold vacant; rw [z1]; exact Nat.ne_of_lt (Nat.lt_succ_of_lt lz)
      have nS : s.heap.objs.size ∉ [(s.heap.push (vacant V)).objs.size, l] := by unfold vacant; rw [z1]; simp only [List.mem_cons, List.not_mem_nil, or_false, not_or]; exact ⟨Nat.ne_of_lt (Nat.lt_succ_self _), Nat.ne_of_gt lz⟩
      refine txs_fill ((Walks.list (by simp [hh]) _ l nI items).toS) s.heap.objs.size nS ws isz hb (fun i v hv => strs_at hi i v (by rw [Array.getElem?_toList]; exact hv)) (items.size - 0) 0 _ (by omega) (Nat.zero_le _)
        ⟨⟨_, Heap.get?_push_size _ rfl, rfl, rfl⟩, (hl1.push _)⟩ ⟨[], vacant_txs (by rw [hV]; unfold vacant; exact Heap.get?_push_of_some _ hS), Nat.le_refl 0, by simp⟩ fun s' l' hm T hx => ?_
      obtain ⟨h', g2, d', tk', os'⟩ := s'; obtain rfl : g2 = s.gens := hm.gens; obtain rfl : d' = s.drawn := hm.drawn; obtain rfl : os' = s.os := hm.os
      show wpAny _ _ _ _ _ _
      refine wpAny_pure (?_ : wpAny _ _ (ret Value.none) _ _ _)
      refine wpAny_pure ⟨rfl, h', tk', l', rfl, T, hx, fun b o e => hm.heap b o ?_ (Heap.get?_push_of_some _ (Heap.get?_push_of_some _ e))⟩
      have := Heap.lt_size e
      unfold vacant; rw [z1]; simp only [List.mem_cons, List.not_mem_nil, or_false, not_or]; exact ⟨Nat.ne_of_lt this, Nat.ne_of_lt (Nat.lt_succ_of_lt this)⟩
    · match r2, hr2 with
      | .error e, hr2 => exact hr2
      | .ok (.ret y), ⟨hy, h', tk, l', hs2, T, hx, hk⟩ =>
        subst hy; subst hs2
        repeat any_goals first | assumption | wp_step
        exact q _ _ _ T hx hk
/-- sorted(a), a a set of texts -/
theorem set_sorted {a : Addr} {l : List Str} {Q : Value → Shared → Prop} (T : Txs P w s.heap a l) (hh : A.handled = none) (hb : l.length < 64)
    (q : ∀ s' p (out : Array Value) (c : Nat) (ys : List Str), (∀ b o, s.heap.get? b = some o → s'.heap.get? b = some o) → s'.gens = s.gens → s'.os = s.os → s.heap.objs.size ≤ p → s'.heap.get? p = some (seqObj "list" out c) → StrsAre out.toList ys → ys.Perm l → sortedS ys = true → Q (.ref p) s') :
    wpAny (model P w) A (call (.builtin "sorted") [.ref a]) Q E s := by
  obtain ⟨nd, D, e, F1, r, ld⟩ := T
  obtain ⟨es, ep, t⟩ := D
  have zz : es.size = l.length := F1.sz
  refine Calls.call_function_entry kind_sorted plain_sorted entry_sorted (args_sorted1 _) (?_ : wpAny _ A.in1 (Builtin.«sorted» _) _ _ _); unfold Builtin.«sorted»
  refine wpAny_bind (m := checkCount "sorted" 1 1 _) (wpAny_pure (wpAny_bind (collect_set (A := A.in1) hh ⟨_, e, rfl, rfl⟩ F1.fit (by show es.size < scanBound; unfold scanBound; omega) r ld fun s1 vs k1 z1 g1 o1 pm => ?_)))
  have vl : vs.length = l.length := by rw [pm.length_eq, List.length_map, Array.length_toList]; exact zz
  have key : ∀ y ∈ es.toList, ∃ k u, y.2 = Value.str k u := fun y hy => by
    obtain ⟨⟨k, hk, _⟩, _⟩ := F1.el y hy
    obtain ⟨u, hu⟩ := Value.isStrOf_shape hk
    exact ⟨k, u, hu⟩
  have S1 : StrsAre vs (vs.map strOf) := strsAre_map vs fun v hv => by
    obtain ⟨y, hy, e⟩ := List.mem_map.mp (pm.mem_iff.mp hv)
    obtain ⟨k, u, z⟩ := key y hy
    exact ⟨k, u, e.symm.trans z⟩
  have pl : (vs.map strOf).Perm l := perm_in nd (fun x hx => by
    obtain ⟨y, hy, hk⟩ := (F1.mem x).mp hx
    obtain ⟨u, hu⟩ := Value.isStrOf_shape hk
    exact List.mem_map.mpr ⟨y.2, pm.mem_iff.mpr (List.mem_map.mpr ⟨y, hy, rfl⟩), by rw [hu]; rfl⟩) (by rw [List.length_map, vl]; exact Nat.le_refl _)
  refine wpAny_bind (wpAny_newList ?_ (by rw [vl, sizeLine_eq]; omega))
  have at1 : (s1.heap.push (seqObj "list" vs.toArray 0)).get? s1.heap.objs.size = some (seqObj "list" vs.toArray 0) := Heap.get?_push_size _ rfl
  refine wpAny_bind (wpAny_holding (wpAny_call_entry slot_list_sort ⟨_, at1, rfl⟩ entry_list_sort
    (list_sort_treeKAny strKind_oneLt at1 S1.keysOf (fun v1 v2 rest e => keyKind_strs (by rw [← e]; exact S1)) (by rw [vl, sizeLine_eq]; omega) fun st hp hs => ⟨_, rfl, ?_⟩) (args_list_sort _)))
  obtain ⟨ys, h1, h2, h3⟩ := sorted_out_str S1 hp hs
  obtain ⟨c, hc⟩ := sortedHeap_at (vs := vs) (out := (arrOf st).map (·.2)) at1
  refine wpAny_pure ⟨_, rfl, q _ s1.heap.objs.size _ c ys (fun b u e => ?_) g1 o1 z1 hc h1 (h2.trans pl) h3⟩
  have q1 := k1 b u e
  have lt := Heap.lt_size q1
  refine Eq.trans (sortedHeap_old (Nat.ne_of_lt lt) (by rw [size_push']; exact Nat.lt_succ_of_lt lt)) ?_
  exact Heap.get?_push_of_some _ q1
end
/-- sorted(set(e)), e a list of texts -/
def mSortSet (m : ME) : ME := fun xc es eh q => m xc es eh fun x eh1 => ∃ ks : List Str, lstE eh1 x = some (ks.map .str) ∧ ks.length < 64 ∧ ∀ ys : List Str, ys.Nodup → (∀ y, y ∈ ys ↔ y ∈ ks) → sortedS ys = true → q (.lst (ys.map .str)) eh1
section
variable {X : Cx} {E : XK} {e : Expr} {me : ME} {p p2 pos pos2 : Pos}
theorem re_sortSet (hc : X.calm = true) (hg : Gl X "sorted") (hm : X.mg "sorted" = none) (hg2 : Gl X "set") (hm2 : X.mg "set" = none) (he : PE X e (U X.K X.mw E me)) (na : starEach [e] X.env = (false, eval e X.env) :: starEach [] X.env := by rfl)
    (hs : starEach [.Call (.Name "set" p2) [e] [] pos2] X.env = (false, eval (.Call (.Name "set" p2) [e] [] pos2) X.env) :: starEach [] X.env := by rfl) :
    PE X (.Call (.Name "sorted" p) [.Call (.Name "set" p2) [e] [] pos2] [] pos) (U X.K X.mw E (mSortSet me)) := by
  refine ⟨fun pins s σ H Q I ⟨Hd, es, eh, xc, q, R, xo, m, k⟩ => ?_⟩
  refine Call_ (ld_blt I hg hm boot_sorted (PyProof.Rows.callWith_builtin1 (PyProof.Rows.args_cons ?_ hs) hs rfl))
  refine Call_ (ld_blt I hg2 hm2 PyProof.Rows.boot_set (PyProof.Rows.callWith_type1 (PyProof.Rows.args_cons (thn (he.run pins s σ H (fun v H1 => ∃ eh1 x, Step eh H eh1 H1 ∧ Rh X.K X.mw Hd eh1 H1 ∧ Rp X.K X.mw Hd eh1 H1 x v ∧ ∃ ks : List Str, lstE eh1 x = some (ks.map .str) ∧ ks.length < 64 ∧ ∀ ys : List Str, ys.Nodup → (∀ y, y ∈ ys ↔ y ∈ ks) → sortedS ys = true → q (.lst (ys.map .str)) eh1) I
    ⟨Hd, es, eh, xc, _, R, xo, m, fun eh1 H1 x v s1 R1 r1 m1 => ⟨eh1, x, s1, R1, r1, m1⟩⟩) fun v s1 ⟨x, H1, I1, r1, eh1, y, st, R1, r2, ks, hy, hl, m1⟩ => PyProof.Rows.args_nil ?_) na) na rfl))
  obtain ⟨a, ws, rfl, hs1, rr⟩ := lst_of R1 r2 hy
  obtain rfl := rpL_strs_inv rr
  cases r1
  obtain ⟨its, rv, pl, hz⟩ := I1.list (.of hs1)
  have hd := I1.ok.hd hc
  refine set_made hd pl.isList (by simpa using rv.strs) (by unfold scanBound; omega) fun h' tk l' T hx hk => PyProof.Rows.args_nil ?_
  have ll : l'.length < 64 := by
    obtain ⟨nd, _⟩ := id T
    exact Nat.lt_of_le_of_lt (len_in nd fun x hx' => (hx x).mp hx') hl
  refine set_sorted (s := { s1 with heap := h', toks := tk }) T hd ll fun s' p0 out c ys k2 g o hp hc2 h1 h2 h3 => ?_
  have kall : ∀ b u, s1.heap.get? b = some u → s'.heap.get? b = some u := fun b u z => k2 b u (hk b u z)
  have hle : s1.heap.objs.size ≤ p0 := by
    obtain ⟨_, D, z, _⟩ := T
    exact Nat.le_trans (Nat.le_of_lt (Heap.lt_size z)) hp
  have hn : H1 p0 = none := I1.hok.fresh hle
  have yl : ys.length < 64 := by rw [h2.length_eq]; exact ll
  have J := I1.call' (ch := []) (H' := upd H1 p0 (.lst (ys.map V.str))) o (Un.laid kall hle hn) (I1.hok.laid kall hle ⟨by rw [List.length_map, sizeLine_eq]; omega, out.toList, c, vals_of_strs h1, hc2⟩) (by rw [g]; exact I1.bare) (fun _ z => nomatch z)
  refine ⟨.ref p0, _, J, rfl, ?_⟩
  obtain ⟨nd, _⟩ := id T
  exact k eh1 _ (.lst (ys.map .str)) (.ref p0) (st.trans (.newF hn)) (R1.newF hn) ⟨p0, _, rfl, upd_same, ⟨R1.fresh hn, R1.notHid hn⟩, rpL_strs ys⟩ (m1 ys (h2.nodup_iff.mpr nd) (fun y => h2.mem_iff.trans (hx y)) h3)
end
end VM

/-! VMK13: xs != [] of a list of anything; text > text. -/
namespace VM
open PySem PySem.Spec PyProof.Rows L2 PySem.SeqAt
section
variable {X : Cx}
def oGtS : EO2 := fun x y eh q => ∃ i j, x = .str i ∧ y = .str j ∧ q (.bl (decide (j.cps.toList < i.cps.toList))) eh
theorem op_gtS : OpR X (compareOp .Gt) (U2 X.K X.mw oGtS) :=
  OpR.imp op_gt_str fun v u H Q ⟨Hd, eh, x, y, q, R, rx, ry, ⟨i, j, ex, ey, m⟩, k⟩ => by
    subst ex ey
    cases rx; cases ry
    exact ⟨i, j, rfl, rfl, k eh H (.bl _) (.bl _) .refl R rfl m⟩
end
end VM

/-! VMK14: name += e of ints. -/
namespace VM
open PySem PySem.Spec PyProof.Rows L2
section
variable {X : Cx} {E : XK} {e : Expr} {ma : ME} {pos : Pos}
end
end VM

/-! VMK15: x > y of data that are alike. -/
namespace VM
open PySem PySem.Spec PyProof.Rows L2
section
variable {X : Cx}
end
end VM

/-! VMK16: sorted(d, key=lambda x: (d[x], x[0], x[1])) of a dict with tuple keys (a text, a tuple of ints). -/
namespace VM
open PySem PySem.Spec PyProof.Rows L2
section
variable {prog : Program} {w : World} {A : Around} {E : Value → Shared → Prop} {s : Shared}
end
section
variable {X : Cx} {pins : List (Addr × Obj)} {σ : L2.St} {H : Hp} {s : Shared}
end
/-! ### sorted by (d[x], x[0], x[1]) -/
section
variable {K : PySem.W.Frag} {mg : MW} {Hd : Addr → Prop} {eh : Eh} {H : Hp}
end
section
variable {X : Cx} {E : XK} {e : Expr} {ma : ME}
end
end VM

/-! VMK17: list(range(n)) to be written. -/
namespace VM
open PySem PySem.Spec PyProof.Rows L2 PySem.Froz
section
variable {X : Cx} {E : XK} {ma : ME} {p pos : Pos}
end
section
variable {X : Cx} {E : XK} {e : Expr} {me : ME} {p p2 pos pos2 : Pos}
end
end VM

/-! VMK18: zip of three tuples. -/
namespace VM
open PySem PySem.Spec PyProof.Rows L2
section
variable {K : PySem.W.Frag} {mg : MW} {Hd : Addr → Prop} {eh0 : Eh} {H0 : Hp}
end
section
variable {X : Cx} {E : XK} {tg e e2 e3 : Expr} {pos p : Pos}
end
end VM

/-! VMK19: list(text) to be written. -/
namespace VM
open PySem PySem.Spec PyProof.Rows L2
section
variable {X : Cx} {E : XK}
end
end VM

/-! VMK20: d[k], t = a pair; d.clear(). -/
namespace VM
open PySem PySem.Spec PyProof.Rows L2
def sDPutG (t : Tg) (md mk mv : ME) : MS := fun xc d es eh => mv xc es eh fun v eh1 => ∃ y z, v = .tup [y, z] ∧ md xc es eh1 fun x eh2 => mk xc es eh2 fun c eh3 => ∃ a kvs k es', x = .ref a ∧ eh3 a = some (.dct kvs) ∧ keyE c = some k ∧ kvs.length < sizeLine ∧ asg t z es = some es' ∧ d.nx es' (eupd eh3 a (some (.dct (putKE kvs k y))))
section
variable {X : Cx} {E : XK} {o c e tg : Expr} {ma mb mv : ME} {t : Tg} {pos p1 pt : Pos} {kt : Nat}
theorem rs_dputg {k : Nat} (hr : RoomG k X.A) (hc : X.calm = true) (ho : PE X o (U X.K X.mw E ma)) (hi : PE X c (U X.K X.mw E mb)) (hg : PG X tg (UG X.K X.mw t)) (hv : PE X e (U X.K X.mw E mv))
    (ha : ∀ v, assign (.Subscript o c p1) X.env v = (do
      let ov ← holding [v] (eval o X.env)
      let iv ← holding [v, ov] (eval c X.env)
      standAt p1
      holding [v, ov, iv] (setItem ov iv v)
      release [v, ov, iv] []) := by intro _; rfl)
    (hs1 : (assignEach [.Subscript o c p1, tg] X.env).map (·.2) = assign (.Subscript o c p1) X.env :: (assignEach [tg] X.env).map (·.2) := by rfl)
    (hs2 : (assignEach [tg] X.env).map (·.2) = assign tg X.env :: (assignEach [] X.env).map (·.2) := by rfl)
    (hn : (assignEach [.Subscript o c p1, tg] X.env).length = 2 := by rfl) (hst : (assignEach [.Subscript o c p1, tg] X.env).findIdx? (·.1) = none := by rfl)
    (hs : swapsWithSole [.Tuple [.Subscript o c p1, tg] kt pt] e pos.line X.env = pure false := by rfl) (hw : swappedStores [.Tuple [.Subscript o c p1, tg] kt pt] e X.env = pure none := by rfl)
    (h1 : (assignEach [.Tuple [.Subscript o c p1, tg] kt pt] X.env).map (·.2) = [assign (.Tuple [.Subscript o c p1, tg] kt pt) X.env] := by rfl) :
    PS X (.Assign [.Tuple [.Subscript o c p1, tg] kt pt] e pos) (US X.K X.mw E (sDPutG t ma mb mv)) :=
  PS.imp (ps_asg hv (pg_tup hc (pgs_cons (pg_sub ho hi (set_dict (by have := hr.units; omega)) ha) (pgs_cons hg pgs_nil hs2) hs1) hn hst) hs hw h1) fun D σ H ⟨Hd, es, eh, xc, d, R, xo, m, k1, k2, k3, k4⟩ => ⟨Hd, es, eh, xc, _, R, xo, m, fun eh1 H1 v v1 s1 R1 r1 ⟨y, z, ev, m1⟩ => by
    subst ev
    obtain ⟨a, vs, rfl, ht, rr⟩ := r1
    obtain ⟨u1, _, rfl, ry, u2, _, rfl, rz, e0⟩ := rr
    cases e0
    refine ⟨a, [u1, u2], rfl, ht, rfl, u1, [u2], rfl, Hd, es, eh1, xc, _, R.step s1 R1, xo.step s1, m1, fun eh2 H2 x x2 s2 R2 r2 m2 => ⟨Hd, es, eh2, xc, _, (R.step s1 R1).step s2 R2, (xo.step s1).step s2, m2, fun eh3 H3 w w3 s3 R3 r3 ⟨a', kvs, k, es', e1, e2, e3, hl, e4, m3⟩ => ?_⟩⟩
    subst e1
    cases r2
    obtain ⟨us, h, tk⟩ := R3.ob a' _ e2
    have st : Step eh3 H3 (eupd eh3 a' (some (.dct (putKE kvs k y)))) (upd H3 a' (.dK (putK us k u1))) := .write R3 e2
    have R4 : Rh X.K X.mw Hd (eupd eh3 a' (some (.dct (putKE kvs k y)))) (upd H3 a' (.dK (putK us k u1))) := .write R3 e2 ⟨_, upd_same, (tk.step st).put ((ry.step (s2.trans s3)).step st)⟩
    have all := s1.trans (s2.trans (s3.trans st))
    refine ⟨a', _, rfl, by rw [keyE_of r3 e3]; exact .k h (by rw [← tk.length]; exact hl), u2, [], rfl, Hd, es, _, z, es', R.step all R4, rz.step (s2.trans (s3.trans st)), e4, fun σ' R' _ _ => ⟨rfl, k1 _ _ _ _ all R' m3⟩⟩⟩
end
/-! ### d.clear() -/
def oClear : EV → EOL := fun x xs eh q => ∃ p kvs, x = .ref p ∧ xs = [] ∧ eh p = some (.dct kvs) ∧ q .non (eupd eh p (some (.dct [])))
section
variable {X : Cx}
theorem mt_clear_e : MtR X "dict.clear" (UM X.K X.mw oClear) := by
  intro pins s σ H v vs u us Q I r1 r2 ⟨Hd, eh, x, xs, q, R, rx, rxs, ⟨p, kvs, ex, exs, he, m⟩, k⟩
  subst ex exs
  cases rx
  cases rxs
  obtain ⟨us0, hd, rk⟩ := R.ob p _ he
  have st : Step eh H (eupd eh p (some (.dct []))) (upd H p (.dK [])) := .write R he
  exact mtd_clear pins s σ H _ _ _ _ Q I r1 r2 ⟨p, us0, rfl, rfl, hd, k _ _ .non .non st (R.write he ⟨[], upd_same, rfl⟩) rfl m⟩
end
end VM

/-! VMK21: a dict or None compared with the same; a list [dict, None, dict] compared with an equal one. -/
namespace VM
open PySem PySem.Spec PyProof.Rows L2
/-- both None, or both dicts of data -/
def cEqDN (neg : Bool) : EO2 := fun x y eh q => (x = .non ∧ y = .non ∧ q (.bl (neg ^^ true)) eh) ∨ cEqD neg x y eh q
/-- a dict and a dict of the same data -/
def SameD (eh : Eh) (x y : EV) : Prop := (x = .non ∧ y = .non) ∨ ∃ ka kb, dctE eh x = some ka ∧ dctE eh y = some kb ∧ (∀ p ∈ ka, PD p.2) ∧ (∀ p ∈ kb, PD p.2) ∧ (ka.map (·.1)).Nodup ∧ (kb.map (·.1)).Nodup ∧ eqKV ka kb = true
/-- lists of dicts of the same data, or None -/
def cEqLD : EO2 := fun x y eh q => ∃ xs ys, lstE eh x = some xs ∧ lstE eh y = some ys ∧ xs.length = ys.length ∧ (∀ (i : Nat) a b, xs[i]? = some a → ys[i]? = some b → SameD eh a b) ∧ q (.bl true) eh
section
variable {X : Cx}
theorem op_eqDN {k : Nat} {neg : Bool} (hr : RoomG k X.A) : OpR X (compareOp (if neg then .NotEq else .Eq)) (U2 X.K X.mw (cEqDN neg)) := by
  intro pins s σ H v u a b Q I r1 r2 ⟨Hd, eh, x, y, q, R, rx, ry, m, kk⟩
  rcases m with ⟨ex, ey, m⟩ | m
  · subst ex ey
    cases neg with
    | false => exact op_eq_any hr pins s σ H v u a b Q I r1 r2 ⟨Hd, eh, .non, .non, q, R, rx, ry, m, kk⟩
    | true => exact op_ne_any hr pins s σ H v u a b Q I r1 r2 ⟨Hd, eh, .non, .non, q, R, rx, ry, m, kk⟩
  · exact op_eqD hr pins s σ H v u a b Q I r1 r2 ⟨Hd, eh, x, y, q, R, rx, ry, m, kk⟩
theorem sameD_tree {pins : List (Addr × Obj)} {s : Shared} {σ : L2.St} {H : Hp} {Hd : Addr → Prop} {eh : Eh} (I : Inv X pins σ H s) (R : Rh X.K X.mw Hd eh H) {x y : EV} {v w : V} {u z : Value} (h : SameD eh x y) (rx : Rp X.K X.mw Hd eh H x v) (ry : Rp X.K X.mw Hd eh H y w) (r1 : RelV v u) (r2 : RelV w z) : PySem.W.EqTree X.prog X.w s 41 u z true := by
  rcases h with ⟨rfl, rfl⟩ | ⟨ka, kb, ex, ey, da, db, na, nb, heq⟩
  · cases rx; cases ry; cases r1; cases r2
    exact .same
  · obtain ⟨d1, w1, rfl, h1, rk1⟩ := dct_of R rx ex
    obtain ⟨d2, w2, rfl, h2, rk2⟩ := dct_of R ry ey
    cases r1; cases r2
    by_cases hd : d1 = d2
    · subst hd; exact .same
    · obtain ⟨_, s1, vs1, kv1, do1⟩ := h1.ok I.hok
      obtain ⟨_, s2, vs2, kv2, do2⟩ := h2.ok I.hok
      have rd : ∀ {x : EV} {v : V} {u : Value}, PD x → Rp X.K X.mw Hd eh H x v → RelV v u → ∃ as, Reads s.heap u (D x) as := fun px r ru => (Dat.of eh px.d).reads I R _ _ r ru
      have leaf : ∀ {x y : EV} {v w : V} {u z : Value}, PD x → PD y → Rp X.K X.mw Hd eh H x v → Rp X.K X.mw Hd eh H y w → RelV v u → RelV w z → PySem.W.EqTree X.prog X.w s 40 u z (PyData.eqv (D x) (D y)) := fun {x y v w u z} px py r1 r2 q1 q2 => by
        obtain ⟨as, ra⟩ := rd px r1 q1
        obtain ⟨bs, rb⟩ := rd py r2 q2
        exact .leaf fun A hA => SeqAt.eqAt_plain _ _ A s _ _ as bs ra rb px.p py.p (by have := px.z; omega)
      have keys1 : vs1.map (·.1) = ka.map (·.1) := (kv_keys kv1).trans rk1.keys
      have keys2 : vs2.map (·.1) = kb.map (·.1) := (kv_keys kv2).trans rk2.keys
      have t := PySem.W.EqTree.dicts (n := 40) (e := fun k => eK ka kb k) hd s1 s2 do1 do2 fun k v y hm hy => by
        obtain ⟨v1, hv1, rv1⟩ := kv_mem kv1 hm
        obtain ⟨x, hx, px⟩ := rpK_mem rk1 hv1
        have rel := kv2.val k
        rw [hy] at rel
        cases hw : valV w2 k with
        | none => rw [hw] at rel; exact rel.elim
        | some v2 =>
          rw [hw] at rel
          cases gy : getK kb k with
          | none => rw [(lookup_valV rk2).2 gy] at hw; cases hw
          | some z =>
            obtain ⟨v2', hv2', pz⟩ := (lookup_valV rk2).1 z gy
            rw [hw] at hv2'; cases hv2'
            have gx := getK_nodup na hx
            show PySem.W.EqTree _ _ _ _ _ _ (eK ka kb k)
            simp only [eK, gx, gy]
            exact leaf (da _ hx) (db _ (getK_mem gy)) px pz rv1 rel
      have eq : (vs1.length == vs2.length && vs1.all fun p => (valueAt vs2 p.1).isSome && eK ka kb p.1) = eqKV ka kb := by
        have l1 : vs1.length = ka.length := by simpa using congrArg List.length keys1
        have l2 : vs2.length = kb.length := by simpa using congrArg List.length keys2
        unfold eqKV
        rw [l1, l2, ← keys1, List.all_map]
        congr 1
        congr 1
        funext p
        show ((valueAt vs2 p.1).isSome && eK ka kb p.1) = ((getK kb p.1).isSome && eK ka kb p.1)
        rw [← lookup_some rk2, ← (kv2.val p.1).isSome_eq]
      rw [eq, heq] at t; exact t
theorem op_eqLD {k : Nat} (hr : RoomG k X.A) : OpR X (compareOp .Eq) (U2 X.K X.mw cEqLD) := by
  have hu := hr.units
  intro pins s σ H v u a b Q I r1 r2 ⟨Hd, eh, x, y, q, R, rx, ry, ⟨xs, ys, ex, ey, hl, hs, m⟩, kk⟩
  obtain ⟨l1, vs, rfl, h1, rp1⟩ := lst_of R rx ex
  obtain ⟨l2, ws, rfl, h2, rp2⟩ := lst_of R ry ey
  cases r1; cases r2
  obtain ⟨its, rv, pl, _⟩ := I.list (.inl (.inl h1))
  obtain ⟨its', rv', pl', _⟩ := I.list (.inl (.inl h2))
  have e1 := rp1.length
  have e2 := rp2.length
  have e3 := rv.length
  have e4 := rv'.length
  have z1 : its.toArray.size = its.length := List.size_toArray
  have z2 : its'.toArray.size = its'.length := List.size_toArray
  refine PySem.W.eq_listsT (n := 41) (e := fun _ => true) pl.isList pl'.isList (by omega) (fun j q1 q2 => ?_) (by omega) ?_
  · have j1 : j < xs.length := by omega
    have j2 : j < ys.length := by omega
    obtain ⟨v1, hv1, p1⟩ := rp1.get (List.getElem?_eq_getElem j1)
    obtain ⟨v2, hv2, p2⟩ := rp2.get (List.getElem?_eq_getElem j2)
    obtain ⟨u1, hu1, s1⟩ := rv.get hv1
    obtain ⟨u2, hu2, s2⟩ := rv'.get hv2
    have g1 : its.toArray[j] = u1 := by
      have := List.getElem?_eq_some_iff.mp hu1
      obtain ⟨_, h⟩ := this
      simpa using h
    have g2 : its'.toArray[j] = u2 := by
      have := List.getElem?_eq_some_iff.mp hu2
      obtain ⟨_, h⟩ := this
      simpa using h
    rw [g1, g2]
    exact sameD_tree I R (hs j _ _ (List.getElem?_eq_getElem j1) (List.getElem?_eq_getElem j2)) p1 p2 s1 s2
  · refine ⟨.bl true, H, I, ?_, kk eh H (.bl true) (.bl true) .refl R rfl m⟩
    have : (List.range its.toArray.size).all (fun _ => true) = true := List.all_eq_true.mpr fun _ _ => rfl
    rw [this]; rfl
end
end VM

/-! VMK22: zip of two texts. -/
namespace VM
open PySem PySem.Spec PyProof.Rows L2
def sgn (x : Str) (i : Nat) (v : V) : Prop := ∃ c, x.cps[i]? = some c ∧ v = .str ⟨#[c]⟩
/-- pairs of two texts' signs, new at each turn -/
def ItzS (x y : Str) : It where
  go := fun i _ => i < x.cps.size ∧ i < y.cps.size
  yld := fun i H v H' => ∃ T p q, (v = .ref T ∧ H T = none ∧ H' = upd H T (.tup [p, q])) ∧ sgn x i p ∧ sgn y i q
  stop := fun i _ => x.cps.size ≤ i ∨ y.cps.size ≤ i
abbrev StS (h : Heap) (it : Addr) (x : Str) (t : Tok) (i : Nat) : Prop := h.IsStrIter it (strIterType x) x t i
theorem stS_keep {h h' : Heap} {it : Addr} {x : Str} {t : Tok} {i : Nat} (st : StS h it x t i) (k : ∀ o, h.get? it = some o → h'.get? it = some o) : StS h' it x t i := by
  obtain ⟨o, e, r⟩ := st
  exact ⟨o, k o e, r⟩
theorem stS_obj {h : Heap} {it : Addr} {x : Str} {t : Tok} {i : Nat} (st : StS h it x t i) : ∃ o, h.get? it = some o ∧ ∀ v, o.data ≠ .cell v := by
  obtain ⟨o, e, _, d⟩ := st
  exact ⟨o, e, fun v q => by rw [d] at q; cases q⟩
theorem restS {P : Program} {w : World} {A : Around} (hh : A.handled = none) (it : Addr) (x : Str) (t : Tok) (i : Nat) :
    Draws P w A it [it] (x.cps.size - i) (fun j v => ∃ c u, x.cps[i + j]? = some c ∧ v = .str ⟨#[c]⟩ u) (fun j h => StS h it x t (i + j)) where
  live := fun j h st => (Draws.text (prog := P) (w := w) hh it x t).live _ h st
  frame := fun j h g st k => (Draws.text (prog := P) (w := w) hh it x t).frame _ h g st k
  item := fun j s Q E lt st k => (Draws.text (prog := P) (w := w) hh it x t).item (i + j) s Q E (by omega) st fun x g tk e st' sb => k x g tk e st' sb
  done := fun s Q E st k => by
    have out : x.cps[i + (x.cps.size - i)]? = none := Array.getElem?_eq_none (by omega)
    cases ha : x.cps.all (· < 128)
    · exact wpAny_nextOf_wide_end hh (by simpa only [StS, strIterType, ha, Bool.false_eq_true, if_false] using st) out k
    · exact wpAny_nextOf_ascii_end hh (by simpa only [StS, strIterType, ha, if_true] using st) out k
theorem turn_zipS {P : Program} {w : World} {K : PySem.W.Frag} {elts : List Expr} {kk : Nat} {tpos : Pos} {x y : Str} {t t' : Tok} {z TI TO i1 i2 : Addr} (S : ZipSep2 z TI TO i1 i2 [i1] [i2]) :
    Turn P w K (.Tuple elts kk tpos) (ItzS x y) [z, TI, TO, i1, i2] z (fun i h => (IsZip h z TI TO .none ∧ IsTupOf2 h TI (.ref i1) (.ref i2) ∧ ∃ x y, IsTupOf2 h TO x y) ∧ StS h i1 x t i ∧ StS h i2 y t' i) where
  mem := by simp
  obj := fun i h ⟨⟨e1, e2, x, y, e3⟩, e4, e5⟩ c hc => by
    simp only [List.mem_cons, List.not_mem_nil, or_false] at hc
    rcases hc with rfl | rfl | rfl | rfl | rfl
    · exact ⟨_, e1, fun v q => nomatch q⟩
    · exact ⟨_, e2, fun v q => nomatch q⟩
    · exact ⟨_, e3, fun v q => nomatch q⟩
    · exact stS_obj e4
    · exact stS_obj e5
  keep := fun i h h' ⟨⟨e1, e2, x, y, e3⟩, e4, e5⟩ k => ⟨⟨k z (by simp) _ e1, k TI (by simp) _ e2, x, y, k TO (by simp) _ e3⟩, stS_keep e4 (k i1 (by simp)), stS_keep e5 (k i2 (by simp))⟩
  item := by
    rintro X rfl rfl rfl hc i pins s σ H E I hf ⟨⟨e1, e2, x0, y0, e3⟩, e4, e5⟩ ⟨l1, l2⟩
    have D1 := Draws.text (prog := X.prog) (w := X.w) (A := X.A.in1) (I.ok.hd hc) i1 x t
    have D2 := Draws.text (prog := X.prog) (w := X.w) (A := X.A.in1) (I.ok.hd hc) i2 y t'
    refine wpAny_pyNext_zipD2_item S D1 D2 e1 e2 e3 e4 e5 l1 l2 fun v1 v2 g tk w1 w2 f1 f2 f3 f4 f5 f6 f7 => ⟨_, rfl, wpAny_letOwnedTupleGo_zip (s := { s with heap := g, toks := tk }) f1 fun g2 d1 same => ?_⟩
    obtain ⟨c1, u1, hc1, rfl⟩ := w1
    obtain ⟨c2, u2, hc2, rfl⟩ := w2
    have zl : z < s.heap.objs.size := Heap.lt_size e1
    have low : ∀ c ∈ [z, TI, TO, i1, i2], c < s.heap.objs.size := fun c hcm => by
      simp only [List.mem_cons, List.not_mem_nil, or_false] at hcm
      rcases hcm with rfl | rfl | rfl | rfl | rfl
      · exact zl
      · exact Heap.lt_size e2
      · exact Heap.lt_size e3
      · obtain ⟨o, ho, _⟩ := stS_obj e4; exact Heap.lt_size ho
      · obtain ⟨o, ho, _⟩ := stS_obj e5; exact Heap.lt_size ho
    have T2 : g2.get? s.heap.objs.size = some { cls := .type "tuple", data := .seq #[.str ⟨#[c1]⟩ u1, .str ⟨#[c2]⟩ u2] } := (same.2 _ (Nat.ne_of_gt zl)).trans f5
    have made : ObjOk X.prog X.w (upd H s.heap.objs.size (.tup [.str ⟨#[c1]⟩, .str ⟨#[c2]⟩])) g2 s.heap.objs.size (.tup [.str ⟨#[c1]⟩, .str ⟨#[c2]⟩]) := ⟨Nat.le_of_ble_eq_true rfl, [.str ⟨#[c1]⟩ u1, .str ⟨#[c2]⟩ u2], .cons ⟨_, rfl⟩ (.cons ⟨_, rfl⟩ .nil), _, T2, rfl, _, rfl⟩
    have J : Inv X pins σ (upd H s.heap.objs.size (.tup [.str ⟨#[c1]⟩, .str ⟨#[c2]⟩])) { { s with heap := g, toks := tk } with heap := g2 } :=
      I.turnedNew (t' := tk) (ch := [z, TI, TO, i1, i2]) (fun c o away e => by
        simp only [List.mem_cons, List.not_mem_nil, or_false, not_or] at away
        exact (same.2 c away.1).trans (f7 c o away.1 away.2.2.1 away.2.2.2.1 away.2.2.2.2 e)) hf (Nat.le_refl _) made
    have up : ∀ c o, c ≠ z → c ≠ TO → c ≠ i1 → c ≠ i2 → s.heap.get? c = some o → g2.get? c = some o := fun c o c1 c2 c3 c4 e => (same.2 c c1).trans (f7 c o c1 c2 c3 c4 e)
    refine ⟨.ref s.heap.objs.size, _, J, rfl, ⟨_, _, _, ⟨rfl, I.hok.fresh (Nat.le_refl _), rfl⟩, ⟨c1, hc1, rfl⟩, c2, hc2, rfl⟩, ⟨⟨d1, up _ _ S.TIz S.TITO S.TIi1 S.TIi2 e2, _, _, (same.2 _ S.TOz).trans f2⟩, ?_, ?_⟩, fun c hcm => ?_⟩
    · exact stS_keep f3 fun o e => (same.2 _ (Ne.symm S.zi1)).trans e
    · exact stS_keep f4 fun o e => (same.2 _ (Ne.symm S.zi2)).trans e
    · rw [upd_ne (Nat.ne_of_lt (low c hcm))]
      exact (hf c hcm).1
  done := by
    rintro X rfl rfl rfl hc i pins s σ H E I hf ⟨⟨e1, e2, x0, y0, e3⟩, e4, e5⟩ he
    refine wpAny_pyNext_zipD2_end (i := 0) S (restS (P := X.prog) (w := X.w) (A := X.A.in1) (I.ok.hd hc) i1 x t i) (restS (P := X.prog) (w := X.w) (A := X.A.in1) (I.ok.hd hc) i2 y t' i) e1 e2 e3 e4 e5 (Nat.zero_le _) (Nat.zero_le _) (by have he2 : x.cps.size ≤ i ∨ y.cps.size ≤ i := he; omega) fun g tk k => ⟨rfl, ?_⟩
    exact I.turnedL (t' := tk) (ch := [z, TI, TO, i1, i2]) (fun c o away e => by
      simp only [List.mem_cons, List.not_mem_nil, or_false, not_or] at away
      exact k c o away.1 away.2.2.1 away.2.2.2.1 away.2.2.2.2 e) hf
  self := fun A i s Q E st h => wpAny_pyIter_zip st.1.1 h
/-- zip of two texts -/
def tZipS (ta : TA) : TI := fun σ H R => ta σ H fun vs H1 => ∃ x y, vs = [.str x, .str y] ∧ R (ItzS x y) H1
theorem pi_zipS {X : Cx} {e e2 : Expr} {ta : TA} {p pos tpos : Pos} {elts : List Expr} {kk : Nat} (hg : Gl X "zip") (hm : X.mg "zip" = none) (ha : PA X [e, e2] ta)
    (hs : starEach [e, e2] X.env = (false, eval e X.env) :: starEach [e2] X.env := by rfl) (hpl : (backTo pos (starEach [e2] X.env)).any (·.1) = false := by rfl) :
    PI X (.Tuple elts kk tpos) (.Call (.Name "zip" p) [e, e2] [] pos) (tZipS ta) := by
  refine ⟨fun pins s σ H R I h => Call_ (ld_blt I hg hm PyProof.Rows.boot_zip (PyProof.Rows.callWith_type1 (thn (ha.run pos pins s σ H _ I h) fun us s1 ⟨vs, H1, J, r, x, y, ev, q⟩ => ?_) hs hpl))⟩
  subst ev
  obtain ⟨t, t', er⟩ : ∃ t t', us = [.str x t, .str y t'] := by
    cases r with
    | cons ra r2 => cases r2 with
      | cons rb r3 => cases r3; obtain ⟨t, rfl⟩ := ra; obtain ⟨t', rfl⟩ := rb; exact ⟨t, t', rfl⟩
  subst er
  refine zip_begins2 (begins_text x t) (begins_text y t') trivial trivial fun g c1 c2 c3 c4 c5 c6 keep => wpAny_pyIter_zip c1 ?_
  have J2 : Inv X pins σ H1 { s1 with heap := g } := J.kept (t' := s1.toks) keep
  have S : ZipSep2 (s1.heap.objs.size + 4) (s1.heap.objs.size + 2) (s1.heap.objs.size + 3) s1.heap.objs.size (s1.heap.objs.size + 1) [s1.heap.objs.size] [s1.heap.objs.size + 1] := zip_sep2 (fp1 := []) (fp2 := []) (by simp) (by simp)
  refine ⟨s1.heap.objs.size + 4, [s1.heap.objs.size + 4, s1.heap.objs.size + 2, s1.heap.objs.size + 3, s1.heap.objs.size, s1.heap.objs.size + 1], _, _, H1, rfl, J2, turn_zipS (t := t) (t' := t') S, ⟨⟨c1, c2, _, _, c3⟩, ⟨_, c4, rfl, rfl⟩, ⟨_, c5, rfl, rfl⟩⟩, fun c hc => ?_, q⟩
  have le : s1.heap.objs.size ≤ c := by
    simp only [List.mem_cons, List.not_mem_nil, or_false] at hc
    rcases hc with e | e | e | e | e <;> rw [e] <;> first | exact Nat.le_add_right _ _ | exact Nat.le_refl _
  exact J.fpOk le (J.hok.fresh le)
def sgnE (x : Str) : List EV := x.cps.toList.map fun c => .str ⟨#[c]⟩
theorem sgnE_len (x : Str) : (sgnE x).length = x.cps.size := by unfold sgnE; rw [List.length_map, Array.length_toList]
section
variable {K : PySem.W.Frag} {mg : MW} {Hd : Addr → Prop} {eh0 : Eh} {H0 : Hp}
theorem jok_zipS (x y : Str) : JOk K mg Hd eh0 H0 (ItzS x y) (((sgnE x).zip (sgnE y)).map fun p => .tup [p.1, p.2]) (fun _ => True) where
  stop := fun i Hd' eh H hh s R o hi => by
    have h1 := sgnE_len x
    have h2 := sgnE_len y
    simp only [List.length_map, List.length_zip] at hi
    show x.cps.size ≤ i ∨ y.cps.size ≤ i
    omega
  go := fun i Hd' eh H hh s R o hi => by
    have h1 := sgnE_len x
    have h2 := sgnE_len y
    simp only [List.length_map, List.length_zip] at hi
    show i < x.cps.size ∧ i < y.cps.size
    omega
  yld := fun i Hd' eh H v H' hh s R o hi ⟨T, p, q, ⟨e, n, e'⟩, ⟨c1, h1, e1⟩, c2, h2, e2⟩ => by
    subst e; subst e'; subst e1; subst e2
    have g1 : (sgnE x)[i]? = some (.str ⟨#[c1]⟩) := by unfold sgnE; rw [List.getElem?_map, Array.getElem?_toList, h1]; rfl
    have g2 : (sgnE y)[i]? = some (.str ⟨#[c2]⟩) := by unfold sgnE; rw [List.getElem?_map, Array.getElem?_toList, h2]; rfl
    exact ⟨.tup [.str ⟨#[c1]⟩, .str ⟨#[c2]⟩], by rw [List.getElem?_map, zip_get g1 g2]; rfl, .newF n, R.newF n, ⟨T, _, rfl, .inl (.inl upd_same), .cons rfl (.one rfl)⟩, fun a o q => by rw [upd_ne (ne_of_none q n)]; exact q⟩
end
/-- zip of two texts -/
def iZipS (t : MA) : MI := fun xc es eh q => t xc es eh fun xs eh1 => ∃ x y, xs = [.str x, .str y] ∧ q (((sgnE x).zip (sgnE y)).map fun p => .tup [p.1, p.2]) (fun _ => True) eh1
section
variable {X : Cx} {E : XK} {tg e e2 : Expr} {pos p : Pos}
theorem ri_zipS {mt : MA} {elts : List Expr} {kk : Nat} {tpos : Pos} (hg : Gl X "zip") (hm : X.mg "zip" = none) (ha : PA X [e, e2] (UA X.K X.mw E mt))
    (hs : starEach [e, e2] X.env = (false, eval e X.env) :: starEach [e2] X.env := by rfl) (hpl : (backTo pos (starEach [e2] X.env)).any (·.1) = false := by rfl) :
    PI X (.Tuple elts kk tpos) (.Call (.Name "zip" p) [e, e2] [] pos) (UI X.K X.mw E (iZipS mt)) :=
  PI.imp (pi_zipS hg hm ha hs hpl) fun σ H R ⟨Hd, es, eh, xc, q, Rl, xo, m, k⟩ => ⟨Hd, es, eh, xc, _, Rl, xo, m, fun eh1 H1 xs vs s1 R1 r1 ⟨x, y, ex, m1⟩ => by
    subst ex
    obtain ⟨v, r, rfl, rv, v', r', rfl, rv', rr⟩ := r1
    cases rr; cases rv; cases rv'
    exact ⟨x, y, rfl, k eh1 H1 _ _ _ s1 R1 (jok_zipS x y) m1⟩⟩
end
end VM

/-! VMA: the head's facts: defs, classes, properties' getters, tables of the defs that make lambdas. -/
namespace VM
open PySem PySem.Spec PyProof.Rows L2
def prA (K : PySem.W.Frag) (C f : Str) : Addr := He.ma K (He.ga K C) f
def geA (K : PySem.W.Frag) (C f : Str) : Addr := match PySem.W.recIn K (prA K C f) "property" with
  | some (.ref g :: _) => g
  | _ => 0
def fnA (K : PySem.W.Frag) (a : Addr) : He.FnW := match K.lookup a with
  | some ⟨_, _, .func fd, _⟩ => some (fd.name, fd.qualname, fd.params, fd.body, fd.scope, fd.globals, fd.closure, fd.builtins)
  | _ => none
/-- a property's getter: class, name, the def -/
structure GetD where
  C : Str
  f : Str
  qual : Str
  params : Arguments
  body : List Stmt
  scope : Scope
def GetD.val (d : GetD) : He.FnW := some (d.f, d.qual, d.params, .stmts d.body, d.scope, mainGlobals, [], builtinsNs)
def GetD.ok (K : PySem.W.Frag) (d : GetD) : Bool := He.eqO (PySem.W.findIn K (.ref (He.ga K d.C)) d.f) (some (some (.ref (prA K d.C d.f)))) && (He.eqO (PySem.W.specialIn K (.ref (prA K d.C d.f)) "__get__") (some (some (.builtin "property.__get__"))) &&
  (decide (PySem.W.takesIn K (.ref (prA K d.C d.f)) = some true) && ((match PySem.W.recIn K (prA K d.C d.f) "property" with | some (.ref _ :: _) => true | _ => false) && (PySem.W.keepIn K (.ref (geA K d.C d.f)) &&
  (match K.lookup (geA K d.C d.f) with
    | some ⟨_, _, .func fd, _⟩ => PySem.W.codeIn K fd.code d.qual && (He.dflB K fd.defaults [] && He.kwdB K fd.kwdefaults [])
    | _ => false)))))
theorem GetD.prop {K : PySem.W.Frag} {d : GetD} (c : d.ok K = true) : PropOf K (He.ga K d.C) d.f (prA K d.C d.f) (geA K d.C d.f) := by
  obtain ⟨c1, c⟩ := He.ba c
  obtain ⟨c2, c⟩ := He.ba c
  obtain ⟨c3, c⟩ := He.ba c
  obtain ⟨c4, _⟩ := He.ba c
  refine ⟨He.eqO_ok c1, He.eqO_ok c2, of_decide_eq_true c3, ?_⟩
  unfold geA
  cases e : PySem.W.recIn K (prA K d.C d.f) "property" with
  | none => rw [e] at c4; cases c4
  | some l =>
    rw [e] at c4
    cases l with
    | nil => cases c4
    | cons v r => cases v with
      | ref g => exact ⟨r, rfl⟩
      | _ => cases c4
theorem GetD.funD {K : PySem.W.Frag} {d : GetD} (e : fnA K (geA K d.C d.f) = d.val) (c : d.ok K = true) : ∃ fd, FunD K d.f d.qual d.params d.body d.scope [] [] (geA K d.C d.f) fd := by
  obtain ⟨_, c⟩ := He.ba c
  obtain ⟨_, c⟩ := He.ba c
  obtain ⟨_, c⟩ := He.ba c
  obtain ⟨_, c⟩ := He.ba c
  obtain ⟨kp, c⟩ := He.ba c
  unfold fnA at e
  cases q : K.lookup (geA K d.C d.f) with
  | none => rw [q] at c; cases c
  | some o =>
    obtain ⟨oc, od, dt, osl⟩ := o
    rw [q] at c e
    cases dt with
    | func fd =>
      obtain ⟨n1, n2, n3, n4, n5, n6, n7, n8, n9, n10, n11, n12, n13, n14, n15⟩ := fd
      unfold GetD.val at e
      simp only [Option.some.injEq, Prod.mk.injEq] at e
      obtain ⟨h1, h2, h3, h4, h5, h6, h7, h8⟩ := e
      subst h1 h2 h3 h4 h5 h6 h7 h8
      obtain ⟨k1, k2⟩ := He.ba c
      obtain ⟨k3, k4⟩ := He.ba k2
      exact ⟨_, ⟨oc, od, n8, n9, n10, n11, n12, n13, n14, osl, rfl, q, k1, He.dflB_ok k3, He.kwdB_ok k4⟩, kp⟩
    | _ => cases c
/-! ### the error classes -/
/-- D: the class with the own __init__ (its def's texts); es: it and its classes; file: the program's file -/
structure ErrD where
  D : Str
  es : List Str
  qual : Str
  params : Arguments
  body : List Stmt
  scope : Scope
  file : Str
def fileOf (vs : Array Value) : Option Str := match (vs[(2 : Nat)]? : Option Value) with
  | some (.str z _) => some z
  | _ => none
theorem fileOf_ok {vs : Array Value} {z : Str} (h : fileOf vs = some z) : ∃ tf, vs[2]? = some (.str z tf) := by
  unfold fileOf at h
  split at h
  · rename_i e; cases h; exact ⟨_, e⟩
  · cases h
abbrev FnC : Type := Option (Str × Str × Arguments × FuncBody × Scope × Addr × List Str × Addr)
def ErrD.at_ (d : ErrD) (K : PySem.W.Frag) : Addr := He.ma K (He.ga K d.D) "__init__"
def ErrD.seen (d : ErrD) (K : PySem.W.Frag) : FnC := match K.lookup (d.at_ K) with
  | some ⟨_, _, .func fd, _⟩ => some (fd.name, fd.qualname, fd.params, fd.body, fd.scope, fd.globals, fd.closure.map (·.1), fd.builtins)
  | _ => none
def ErrD.val (d : ErrD) : FnC := some ("__init__", d.qual, d.params, .stmts d.body, d.scope, mainGlobals, ["__class__"], builtinsNs)
def ErrD.fnB (d : ErrD) (K : PySem.W.Frag) : Bool := match K.lookup (d.at_ K) with
  | some ⟨_, _, .func fd, _⟩ => (match fd.defaults with | .none => true | _ => false) && (PySem.W.codeIn K fd.code d.qual && ((match fd.code with
      | .ref c => (match K.lookup c with
        | some ⟨_, _, .fields vs, _⟩ => decide (fileOf vs = some d.file)
        | _ => false)
      | _ => false) && (match fd.closure with
      | [(_, c)] => (match K.lookup c with
        | some ⟨_, _, .cell (some (.ref D)), _⟩ => D == He.ga K d.D
        | _ => false)
      | _ => false)))
  | _ => false
def ErrD.ok (d : ErrD) (K : PySem.W.Frag) : Bool := d.fnB K && ((PySem.W.clsIn K (He.ga K d.D)).isSome && (decide (PySem.W.typeIn K (.ref (d.at_ K)) = some (.type "function")) && (He.eqO (PySem.W.nsIn K mainGlobals "super") (some none) &&
  d.es.all fun x => He.eqO (PySem.W.nsIn K mainGlobals x) (some (some (.ref (He.ga K x)))) && (sclsB K (He.ga K x) (He.ga K d.D) && (He.eqO (PySem.W.findIn K (.ref (He.ga K x)) "__init__") (some (some (.ref (d.at_ K)))) &&
    d.es.all fun y => decide (PySem.W.kitOne K (.ref (He.ga K x)) (.ref (He.ga K y)) = some (isX x y)) && decide (PySem.W.exmOne K (.ref (He.ga K x)) (.ref (He.ga K y)) = some (isX x y)))))))
/-- what the texts themselves say -/
structure ErrS (d : ErrD) (P : Program) : Prop where
  file : P.main.file = d.file
  top : (P.main.scope.names.lookup ("super" : Str)).isSome = false
  ar : ∃ ar : Arg, (d.params.posonlyargs ++ d.params.args).head? = some ar ∧ ar.arg = "self"
  ks : d.scope.names.lookup ("super" : Str) = some .globalImplicit
  kc : d.scope.names.lookup ("__class__" : Str) = some .free
  k1 : d.scope.names.lookup ("self" : Str) = some .local
  k2 : d.scope.names.lookup ("value" : Str) = some .local
  cell : ∀ x ∈ d.scope.names, x.2 ≠ .cell
  co : d.scope.isCoroutine = false
  gen : d.scope.isGenerator = false
  kind : d.scope.kind = .function
  bd : InitForm d.qual d.body d.scope
  bind : ∀ (kV doc pm ct : Value) (an : Option Addr) (cda cc : Addr), SBind (PySem.W.ksFn "__init__" d.qual d.params d.body d.scope .none kV doc pm an (.ref cda) ct cc)
theorem ErrD.init {K : PySem.W.Frag} {P : Program} {mg : Str → Option Value} {d : ErrD} (S : ErrS d P) (e : d.seen K = d.val) (c : d.fnB K = true) (hD : (PySem.W.clsIn K (He.ga K d.D)).isSome = true) (hs : mg "super" = none) :
    ∃ fd qual params body scope, SInit K P mg (d.at_ K) fd (He.ga K d.D) qual params body scope ∧ SBind fd := by
  obtain ⟨cdD, hD⟩ := Option.isSome_iff_exists.mp hD
  obtain ⟨ar, ha1, ha2⟩ := S.ar
  unfold ErrD.seen at e
  unfold ErrD.fnB at c
  cases q : K.lookup (d.at_ K) with
  | none => rw [q] at c; cases c
  | some o =>
    obtain ⟨oc, od, dt, osl⟩ := o
    rw [q] at c e
    cases dt with
    | func fd =>
      obtain ⟨n1, n2, n3, n4, n5, n6, n7, n8, n9, n10, n11, n12, n13, n14, n15⟩ := fd
      unfold ErrD.val at e
      simp only [Option.some.injEq, Prod.mk.injEq] at e
      obtain ⟨h1, h2, h3, h4, h5, h6, h7, h8⟩ := e
      dsimp only at c
      obtain ⟨c1, c⟩ := He.ba c
      obtain ⟨c2, c⟩ := He.ba c
      obtain ⟨c3, c4⟩ := He.ba c
      have dn : n8 = .none := by cases n8 <;> first | rfl | cases c1
      obtain ⟨cda, hcda⟩ : ∃ c, n13 = Value.ref c := by cases n13 <;> first | exact ⟨_, rfl⟩ | cases c3
      subst hcda
      dsimp only at c3
      split at c3 <;> try cases c3
      rename_i vs _ lkc
      obtain ⟨tf, hvs⟩ := fileOf_ok (of_decide_eq_true c3)
      obtain ⟨cc, hcl⟩ : ∃ cc, n7 = [(("__class__" : Str), cc)] := by
        match n7, h7 with
        | [(y, z)], h7 =>
          have : y = "__class__" := by simpa using h7
          exact ⟨z, by rw [this]⟩
      subst hcl
      dsimp only at c4
      split at c4 <;> try cases c4
      rename_i Dv _ lkcell
      have hDv : Dv = He.ga K d.D := by simpa using c4
      subst h1 h2 h3 h4 h5 h6 h8 dn hDv
      rw [← S.file] at hvs
      exact ⟨_, d.qual, d.params, d.body, d.scope, ⟨⟨oc, _, _, od, _, _, .none, n9, n10, n11, _, _, osl, _, _, cc, cda, vs, tf, ar, cdD, rfl, q, c2, lkc, hvs, lkcell, hD, ha1, ha2⟩, S.top, hs, S.ks, S.kc, S.k1, S.k2, S.cell, S.co, S.gen, S.kind, S.bd⟩, S.bind _ _ _ _ _ _ _⟩
    | _ => cases c
/-! ### the Hook -/
abbrev AlP : Type := He.AlX × List He.FnW × List FnC × Bool
def stB (g : Addr → Option Obj) : Bool := match g cStatics with
  | some o => decide (PySem.W.nsIn [(cStatics, o)] cStatics "thirdparty.any" = some none)
  | none => false
/-- a class with an own __eq__ is as != by it needs -/
def nbB (K : PySem.W.Frag) (x : Str) : Bool :=
  match PySem.W.findIn K (.ref (He.ga K x)) "__eq__" with
  | some (some (.ref _)) => isNB K (He.ga K x)
  | _ => true
/-- no address twice -/
def nodB : List Addr → Bool
  | [] => true
  | a :: l => (l.all fun b => Nat.beq a b == false) && nodB l
/-- the tables of the defs with a lambda are apart -/
def tabsB (K : PySem.W.Frag) : Bool := nodB (tfs.map fun p => (He.cT K p.1).2)
def exP (gs : List GetD) (rs : List ErrD) (K : PySem.W.Frag) : Bool := ((gs.all fun d => d.ok K) && ((xcs.all fun x => isCB K x && nbB K x) && rs.all fun d => d.ok K)) && tabsB K
def obsP (n : Nat) (fa : List He.Fa) (fn : List He.DefD) (gs : List GetD) (rs : List ErrD) (tf : List He.Defn) (g : Addr → Option Obj) : AlP :=
  (He.obsX n fa fn [] tf (exP gs rs) g, gs.map (fun d => fnA (He.frT g (He.asD g n)) (geA (He.frT g (He.asD g n)) d.C d.f)), rs.map (fun d => d.seen (He.frT g (He.asD g n))), rs.isEmpty || stB g)
theorem stB_ok {h : Heap} (e : stB h.get? = true) : StO h := by
  unfold stB at e
  split at e
  · rename_i o q; exact ⟨o, q, of_decide_eq_true e⟩
  · cases e
structure SaysP (fa : List He.Fa) (fn : List He.DefD) (gs : List GetD) (rs : List ErrD) (tf : List He.Defn) (w : World) (h : Heap) (K : PySem.W.Frag) : Prop where
  x : He.SaysX fa fn [] tf (exP gs rs) w h K
  g : gs.map (fun d => fnA K (geA K d.C d.f)) = gs.map GetD.val
  r : rs.map (fun d => d.seen K) = rs.map ErrD.val
  s : rs ≠ [] → StO h
def hookP (n : Nat) (fa : List He.Fa) (fn : List He.DefD) (gs : List GetD) (rs : List ErrD) (tf : List He.Defn) : PySem.W.Hook where
  α := AlP
  obs := fun s => obsP n fa fn gs rs tf s.heap.get?
  val := fun w => (He.valX fn [] w, gs.map GetD.val, rs.map ErrD.val, true)
  says := fun w h => ∃ K : PySem.W.Frag, K.In h ∧ SaysP fa fn gs rs tf w h K
  of := fun _ _ e => ⟨_, He.frT_in, He.saysX_of (congrArg (fun z : AlP => z.1) e), congrArg (fun z : AlP => z.2.1) e, congrArg (fun z : AlP => z.2.2.1) e, fun hr => stB_ok (by
    have z : (rs.isEmpty || stB _) = true := congrArg (fun z : AlP => z.2.2.2) e
    cases rs with
    | nil => exact absurd rfl hr
    | cons a l => exact z)⟩
  keeps := fun _ _ _ ⟨K, hK, c⟩ k => ⟨K, PySem.W.Frag.In.keeps hK k, ⟨⟨c.x.t, c.x.more, c.x.hd, c.x.out, fun p hp => k _ _ (c.x.empty p hp)⟩, c.g, c.r, fun hr => (c.s hr).keeps k⟩⟩
theorem obsP_eq {n : Nat} {fa : List He.Fa} {fn : List He.DefD} {gs : List GetD} {rs : List ErrD} {tf : List He.Defn} {g : Addr → Option Obj} {s : Shared} (h : ∀ a, g a = s.heap.get? a) : obsP n fa fn gs rs tf g = (hookP n fa fn gs rs tf).obs s := by
  have e : g = s.heap.get? := funext h
  rw [e]; rfl
/-- what the walks lean on -/
structure Wd (fa : List He.Fa) (fn : List He.DefD) (gs : List GetD) (rs : List ErrD) (K : PySem.W.Frag) (mg : Str → Option Value) (base : Heap) : Prop where
  X : ∃ h : Heap, K.In h ∧ h.Ns mainGlobals mg
  c : He.SaysD fa fn K
  g : gs.map (fun d => fnA K (geA K d.C d.f)) = gs.map GetD.val
  r : rs.map (fun d => d.seen K) = rs.map ErrD.val
  st : rs ≠ [] → StO base
  go : exP gs rs K = true
  tb : ∀ p ∈ tfs.map (·.1), LamX.TabB base mg (He.cT K p).1 (He.cT K p).2
section
variable {fa : List He.Fa} {fn : List He.DefD} {gs : List GetD} {rs : List ErrD} {K : PySem.W.Frag} {mg : Str → Option Value} {base : Heap}
theorem Wd.glo (W : Wd fa fn gs rs K mg base) (i : Nat) {x : Str} (h : fa[i]? = some (.glo x) := by rfl) : mg x = some (.ref (He.ga K x)) := by
  obtain ⟨h', a, b⟩ := W.X
  exact He.glo_ok a b (W.c.fact i h)
theorem Wd.free (W : Wd fa fn gs rs K mg base) (i : Nat) {x : Str} (h : fa[i]? = some (.free x) := by rfl) : mg x = none := by
  obtain ⟨h', a, b⟩ := W.X
  exact He.free_ok a b (W.c.fact i h)
theorem Wd.int (W : Wd fa fn gs rs K mg base) (i : Nat) {x : Str} {n : Int} (h : fa[i]? = some (.int x n) := by rfl) : ∃ t, mg x = some (.int n t) := by
  obtain ⟨h', a, b⟩ := W.X
  exact He.int_ok a b (W.c.fact i h)
theorem Wd.str (W : Wd fa fn gs rs K mg base) (i : Nat) {x z : Str} (h : fa[i]? = some (.str x z) := by rfl) : ∃ t, mg x = some (.str z t) := by
  obtain ⟨h', a, b⟩ := W.X
  exact He.str_ok a b (W.c.fact i h)
theorem Wd.cls (W : Wd fa fn gs rs K mg base) (i : Nat) {x : Str} (h : fa[i]? = some (.cls x) := by rfl) : Cls K (He.ga K x) := He.cls_ok (W.c.fact i h)
theorem Wd.noat (W : Wd fa fn gs rs K mg base) (i : Nat) {x f : Str} (h : fa[i]? = some (.noat x f) := by rfl) : NoAttr K (He.ga K x) f := He.noat_ok (W.c.fact i h)
theorem Wd.meth (W : Wd fa fn gs rs K mg base) (i : Nat) {x f : Str} (h : fa[i]? = some (.meth x f) := by rfl) : Meth K (He.ga K x) f (He.ma K (He.ga K x) f) := He.meth_ok (W.c.fact i h)
theorem Wd.mkr (W : Wd fa fn gs rs K mg base) (i : Nat) {x : Str} (h : fa[i]? = some (.mkr x) := by rfl) : Mk K (He.ga K x) (He.ma K (He.ga K x) "__init__") := He.mkr_ok (W.c.fact i h)
theorem Wd.get (W : Wd fa fn gs rs K mg base) (i : Nat) {d : GetD} (h : gs[i]? = some d := by rfl) : PropOf K (He.ga K d.C) d.f (prA K d.C d.f) (geA K d.C d.f) ∧ ∃ fd, FunD K d.f d.qual d.params d.body d.scope [] [] (geA K d.C d.f) fd := by
  have ok : d.ok K = true := List.all_eq_true.mp (He.ba (He.ba W.go).1).1 d (List.mem_of_getElem? h)
  have e : (gs.map fun d => fnA K (geA K d.C d.f))[i]? = (gs.map GetD.val)[i]? := by rw [W.g]
  rw [List.getElem?_map, List.getElem?_map, h] at e
  exact ⟨GetD.prop ok, GetD.funD (Option.some.inj e) ok⟩
end
/-- a def that makes lambdas: its code object is known -/
theorem fn_ok0L {P : Program} {w : World} {K : PySem.W.Frag} {mg : Str → Option Value} {base : Heap} {x qual : Str} {params : Arguments} {body : List Stmt} {scope : Scope} {dvs : List V} {kws : List (Str × V)} {at_ : Str × Option Str} {fd : FuncData} {N ps : List Str} {k : Nat} {ms : MS}
    (F : FunD K x qual params body scope dvs kws (He.fAd K at_) fd) (S : FnScope N ps scope)
    (h : ∀ (A : Around) (outer : List Env) (s : Shared) (H : Hp) (E : XK), RoomG k (A.deeper (envOfC qual scope s.heap.objs.size (He.fAd K at_) (.ref (He.cT K at_).1))) → PSs (cxOf CX0 P w K mg base N qual scope (He.fAd K at_) (.ref (He.cT K at_).1) A outer s H E).nox body (US K ⟨mg, w⟩ E ms)) :
    FnG P w K mg base CX0 (k + 1) (He.fAd K at_) fd ps (spOf K ⟨mg, w⟩ ps.length (fnOf N.length ms)) := by
  refine .of F S (fun vs H Q E h => h.choose_spec.choose_spec.choose_spec.choose_spec.choose_spec.1) fun cdv A outer s H vs Q E ⟨oc, od, osl, lk, ec, hcd⟩ hr hsp => ?_
  have hcv : ∃ c, cdv = .ref c := by
    unfold PySem.W.codeIn at hcd
    cases cdv with
    | ref c => exact ⟨c, rfl⟩
    | _ => cases hcd
  obtain ⟨c, rfl⟩ := hcv
  have hc : (He.cT K at_).1 = c := He.codeOf_eq lk ec
  rw [← hc] at hr ⊢
  exact ⟨_, (h A outer s H E hr).nox, sp_start hsp⟩
end VM

/-! VMB: keyword binding by places; statements of a class. -/
namespace VM
open PySem PySem.Spec PyProof.Rows L2
def clB : Stmt → List Stmt
  | .ClassDef (body := b) .. => b
  | _ => []
/-- the values in the parameters' order: inl i: the i-th positional one, inr j: the j-th keyword's -/
def prm {α : Type} (d : α) (is : List (Nat ⊕ Nat)) (us ws : List α) : List α := is.map fun i => match i with
  | .inl i => us.getD i d
  | .inr j => ws.getD j d
theorem Vals.getD {vs : List V} {us : List Value} (r : Vals vs us) (i : Nat) : RelV (vs.getD i .non) (us.getD i .none) := by
  rw [List.getD_eq_getElem?_getD, List.getD_eq_getElem?_getD]
  cases e : vs[i]? with
  | some v => obtain ⟨u, hu, q⟩ := r.get e; rw [hu]; exact q
  | none =>
    have : us[i]? = none := by rw [List.getElem?_eq_none_iff] at e ⊢; rw [← r.length]; exact e
    rw [this]; rfl
theorem RpL.getD {K mg Hd eh H} {xs : List EV} {vs : List V} (r : RpL K mg Hd eh H xs vs) (i : Nat) : Rp K mg Hd eh H (xs.getD i .non) (vs.getD i .non) := by
  rw [List.getD_eq_getElem?_getD, List.getD_eq_getElem?_getD]
  cases e : xs[i]? with
  | some v => obtain ⟨u, hu, q⟩ := r.get e; rw [hu]; exact q
  | none =>
    have : vs[i]? = none := by rw [List.getElem?_eq_none_iff] at e ⊢; rw [← r.length]; exact e
    rw [this]; rfl
theorem prm_rel (is : List (Nat ⊕ Nat)) {vs : List V} {us : List Value} {zs : List V} {ws : List Value} (r : Vals vs us) (r' : Vals zs ws) : Vals (prm .non is vs zs) (prm .none is us ws) := by
  induction is with
  | nil => exact .nil
  | cons i is ih =>
    cases i with
    | inl j => exact .cons (Vals.getD r j) ih
    | inr j => exact .cons (Vals.getD r' j) ih
theorem prm_ok {K mg} (is : List (Nat ⊕ Nat)) : GOk K mg (prm .non is) (prm .non is) := ⟨fun {Hd eh H xs zs vs ws} r r' => by
  induction is with
  | nil => exact .nil
  | cons i is ih =>
    cases i with
    | inl j => exact RpL.cons (RpL.getD r j) ih
    | inr j => exact RpL.cons (RpL.getD r' j) ih⟩
theorem kbn_of {K : PySem.W.Frag} {x qual : Str} {params : Arguments} {body : List Stmt} {scope : Scope} {f : Addr} {fd : FuncData} {ps ks : List Str} {n : Nat} (is : List (Nat ⊕ Nat)) (F : FunD K x qual params body scope [] [] f fd)
    (h : ∀ (kV doc pm : Value) (an : Option Addr) (cdv ct : Value) (us ws : List Value), us.length = n → ws.length = ks.length → bindArgs (PySem.W.fnOf x qual params body scope .none kV doc pm an cdv ct) ⟨us, ks.zip ws⟩ = pure (ps.zip (prm .none is us ws))) :
    KBn K fd ps n ks (prm .none is) (prm .non is) := by
  obtain ⟨oc, od, dV, kV, doc, pm, an, cdv, ct, osl, rfl, lk, hcd, hD, hK⟩ := F.ex
  rcases hD with ⟨_, rfl⟩ | ⟨e, _⟩
  · exact ⟨fun s us ws _ l1 l2 => .of_eq (h kV doc pm an cdv ct us ws l1 l2), fun r r' => prm_rel is r r'⟩
  · exact absurd rfl e
end VM
namespace VM
open PySem PySem.Spec PyProof.Rows L2
theorem nodB_at : ∀ {l : List Addr} {i j : Nat} {a : Addr}, nodB l = true → l[i]? = some a → l[j]? = some a → i = j
  | [], i, _, _, _, h, _ => by simp at h
  | b :: l, i, j, a, h, hi, hj => by
    have h1 := (He.ba h).1
    have h2 := (He.ba h).2
    have ne : ∀ {k : Nat}, l[k]? = some a → b = a → False := fun hk e => by
      have := List.all_eq_true.mp h1 a (List.mem_of_getElem? hk)
      subst e
      simp at this
    cases i with
    | zero =>
      cases j with
      | zero => rfl
      | succ j => exact (ne (by simpa using hj) (by simpa using hi)).elim
    | succ i =>
      cases j with
      | zero => exact (ne (by simpa using hi) (by simpa using hj)).elim
      | succ j => exact congrArg (· + 1) (nodB_at (a := a) h2 (by simpa using hi) (by simpa using hj))
section
variable {fa : List He.Fa} {fn : List He.DefD} {gs : List GetD} {rs : List ErrD} {K : PySem.W.Frag} {mg : Str → Option Value} {base : Heap}
theorem tab_uniq (W : Wd fa fn gs rs K mg base) {i : Nat} {P : Addr} {q : Str} (h : (tabT K)[i]? = some (P, q)) : ∀ p ∈ tabT K, p.1 = P → p.2 = q := fun p hp e => by
  have nd : nodB ((tabT K).map (·.1)) = true := by
    have := (He.ba W.go).2
    unfold tabsB at this
    unfold tabT
    rw [List.map_map]; exact this
  obtain ⟨j, hj, e2⟩ := List.getElem_of_mem hp
  have hj2 : (tabT K)[j]? = some p := by rw [List.getElem?_eq_getElem hj, e2]
  have := nodB_at (a := P) nd (i := i) (j := j) (by rw [List.getElem?_map, h]; rfl) (by rw [List.getElem?_map, hj2]; show some p.1 = _; rw [e])
  rw [this, hj2] at h
  rw [Option.some.inj h]
end
end VM

/-! VMC: the end: what is left of the law is a fact about a pure function. -/
namespace VM
open PySem PySem.Spec PyProof.Rows L2
/-- what is seen of the start: the script (unless K holds it) and the tables of code objects -/
def startH (K : PySem.W.Frag) (T : List Addr) (a : Addr) (o : Obj) (vs : List V) : Hp := fun b =>
  if b ∈ T then some (.tbl #[]) else if b = a then (if (K.lookup a).isSome then none else some (.frz o (.lst vs))) else none
section
variable {P : Program} {w : World} {K : PySem.W.Frag} {mg mb : Str → Option Value} {k : Nat} {fa a : Addr} {cs : List (Addr × Addr)} {fd : FuncData} {x : Str} {sp : Sp} {s : Shared} {vs : List Value} {ns : List Int}
/-- the law's def is called at the script: from a promise that knows that no repr is under way -/
theorem start_call (kin : K.In s.heap) (gm : s.heap.Ns mainGlobals mg) (gb : s.heap.Ns builtinsNs mb) (eb : ∀ x : Str, x ≠ "__name__" → mb x = bootBuiltins x) (lim : s.heap.NoLimit) (gen : s.gens = #[])
    (tb : ∀ p ∈ cs, s.heap.get? p.2 = some { cls := .none, data := .fields #[] }) (tk : ∀ p ∈ cs, K.lookup p.2 = none) (cd : ∀ p ∈ cs, PySem.W.CodeHd s.heap p.1 p.2)
    (bi : ∃ (m : Addr) (o : Obj), mg "__builtins__" = some (.ref m) ∧ m ≠ builtinsNs ∧ s.heap.get? m = some o ∧ o.cls = .type "module" ∧ o.dict = some builtinsNs ∧ o.data = .plain)
    (scr : s.heap.get? a = some { cls := .type "list", data := .seq vs.toArray }) (int : IntsAre vs ns) (sz : ns.length ≤ sizeLine) (ro : Room k callerA)
    (F : ∀ B : Heap, K.In B → B.Ns mainGlobals mg → (StO s.heap → StO B) → (∀ p ∈ cs, LamX.TabB B mg p.1 p.2) → FnG P w K mg B CX0 k fa fd [x] sp) (bd : ∀ (s : Shared) (u : Value), BindsTo s fd ⟨[u], []⟩ [(x, u)])
    (hs : ∀ H : Hp, (∀ p ∈ cs, H p.2 = some (.tbl #[])) → SqL K H a (ns.map V.int) → sp [.ref a] H (fun v _ => v = .bl true) fun _ _ _ => False) :
    codeAny (model P w) callerA (.call (.ref fa) ⟨[.ref a], []⟩) (fun r t => r = .ok (.ret (.bool true)) ∧ OldK s.heap t.heap ∧ t.os = s.os ∧ AllBare t.gens) s := by
  have rv := vals_ints int
  generalize hO : ({ cls := .type "list", data := .seq vs.toArray } : Obj) = O at scr
  have seq : O.data = .seq vs.toArray := by rw [← hO]
  generalize hT : cs.map (·.2) = T
  have inT : ∀ {p}, p ∈ cs → p.2 ∈ T := fun hp => hT ▸ List.mem_map.mpr ⟨_, hp, rfl⟩
  have atT : ∀ {b}, b ∈ T → s.heap.get? b = some { cls := .none, data := .fields #[] } := fun hb => by
    rw [← hT] at hb; obtain ⟨p, hp, rfl⟩ := List.mem_map.mp hb; exact tb p hp
  have keyT : ∀ {b}, b ∈ T → K.lookup b = none := fun hb => by
    rw [← hT] at hb; obtain ⟨p, hp, rfl⟩ := List.mem_map.mp hb; exact tk p hp
  have aT : a ∉ T := fun z => by
    have q := Option.some.inj ((atT z).symm.trans scr)
    rw [← q] at seq; cases seq
  generalize eH : startH K T a O (ns.map V.int) = H
  have onT : ∀ {b}, b ∈ T → H b = some (.tbl #[]) := fun hb => by rw [← eH]; exact if_pos hb
  have out : ∀ {b}, b ∉ T → b ≠ a → H b = none := fun h1 h2 => by rw [← eH]; exact (if_neg h1).trans (if_neg h2)
  have ata : H a = if (K.lookup a).isSome then none else some (.frz O (.lst (ns.map V.int))) := by rw [← eH]; exact (if_neg aT).trans (if_pos rfl)
  -- an object of another kind is not seen
  have plain : ∀ {b o}, s.heap.get? b = some o → (∀ us n, o.data ≠ .seq us n) → o.data ≠ .fields #[] → H b = none := fun {b o} e h1 h2 => by
    apply out
    · intro z; have q := Option.some.inj ((atT z).symm.trans e); rw [← q] at h2; exact h2 rfl
    · intro z; subst z; have q := Option.some.inj (scr.symm.trans e); rw [← q] at h1; exact h1 _ _ seq
  have isD : ∀ {b m}, s.heap.Ns b m → (hidT s.heap H).Ns b m := by
    rintro b m ⟨o, es, ep, e, d, r⟩
    refine ⟨o, es, ep, hidT_get e (plain e ?_ ?_), d, r⟩ <;> (intros; rw [d]; simp)
  have stT : StO s.heap → StO (hidT s.heap H) := fun ⟨o, e, q⟩ => by
    refine ⟨o, hidT_get e (plain e (fun us n z => ?_) (fun z => ?_)), q⟩
    all_goals
      obtain ⟨oc, od, dt, osl⟩ := o
      dsimp only at z
      subst z
      simp [PySem.W.nsIn] at q
  have kinB : K.In (hidT s.heap H) := fun b o e => by
    refine hidT_get (kin b o e) ?_
    by_cases h1 : b ∈ T
    · rw [keyT h1] at e; cases e
    · by_cases h2 : b = a
      · subst h2; rw [ata, e]; rfl
      · exact out h1 h2
  have md : L2.Mod K mg (hidT s.heap H) := ⟨kinB, isD gm, ⟨mb, isD gb, eb⟩, by obtain ⟨mc, c1, c2⟩ := lim; exact ⟨mc, isD c1, c2⟩⟩
  have tabs : ∀ p ∈ cs, LamX.TabB (hidT s.heap H) mg p.1 p.2 := fun p hp => by
    have t0 := tb p hp
    constructor
    · obtain ⟨o, us, file, tf, flags, tg, inF, text, tt, e, q, d, r3, rr⟩ := cd p hp
      refine ⟨o, us, file, tf, flags, tg, inF, text, tt, hidT_get e (plain e (by intros; rw [d]; simp) ?_), q, d, r3, rr⟩
      intro z; rw [d] at z; cases z; simp at r3
    · obtain ⟨m, o, b1, b2, e, b4, b5, d⟩ := bi
      refine ⟨m, o, b1, b2, ?_, ?_, hidT_get e (plain e (by intros; rw [d]; simp) (by rw [d]; simp)), b4, b5, d⟩
      · rintro rfl; obtain ⟨o', es, ep, e', d', _⟩ := gm; rw [e'] at e; cases e; rw [d'] at d; cases d
      · rintro rfl; rw [t0] at e; cases e; cases d
    · intro z
      obtain ⟨o', es, ep, e', d', _⟩ := gm
      rw [z, t0] at e'; cases e'; cases d'
  have hok : HOk P w H s.heap := fun b u e => by
    by_cases h1 : b ∈ T
    · rw [onT h1] at e; cases e; exact atT h1
    · by_cases h2 : b = a
      · subst h2
        rw [ata] at e
        split at e
        · cases e
        · cases e; exact ⟨scr, by rw [List.length_map]; exact sz, vs, _, rv, hO ▸ scr⟩
      · rw [out h1 h2] at e; cases e
  have e0 : Env0 P w K mg (hidT s.heap H) callerA [] s H := ⟨rfl, md, fun b o e => of_hidT e, Nat.le_of_eq (hidT_size _ _), trivial, (by intro b hb; cases hb), hok, .of_eq gen⟩
  have sq : SqL K H a (ns.map V.int) := by
    cases hk : K.lookup a with
    | none => exact .inl (.inr ⟨O, by rw [ata, hk]; rfl⟩)
    | some o =>
      have := Option.some.inj (scr.symm.trans (kin a o hk)); subst this
      exact .inr ⟨O, vs.toArray, 0, hk, by rw [← hO], by rw [← hO], seq, by rw [List.size_toArray, int.length]; exact sz, by simpa using rv⟩
  have run := (F _ kinB (isD gm) stT tabs).go (xs := [.ref a]) ⟨ro, rfl⟩ e0 (bd s (.ref a)) (.cons rfl .nil) (hs H (fun p hp => onT (inT hp)) sq)
  refine codeAny_mono run ?_
  rintro (_ | _ | _ | _ | u) t h
  case error => exact h.elim
  case ok.next => exact h.elim
  case ok.brk => exact h.elim
  case ok.cont => exact h.elim
  obtain ⟨v, H', os, bare, un, hok', r, rfl⟩ := h
  cases r
  have old : ∀ {b o}, b ∉ T → s.heap.get? b = some o → t.heap.get? b = some o := fun {b o} h1 e => by
    cases q : H b with
    | none => exact un.keep b o e q (by intro z; cases z) (by simp)
    | some u =>
      by_cases h2 : b = a
      · subst h2
        rw [ata] at q
        split at q
        · cases q
        · cases q
          rename_i hk
          have z := hok' b _ (un.frzs b O _ (by rw [ata, if_neg hk]))
          rw [Option.some.inj (e.symm.trans scr)]; exact z.1
      · rw [out h1 h2] at q; cases q
  have more : ∀ {b}, b ∈ T → ∃ us : Array Value, t.heap.get? b = some { cls := .none, data := .fields us } := fun hb => by
    obtain ⟨us, z⟩ := un.tbls _ #[] (onT hb)
    exact ⟨_, hok' _ _ z⟩
  refine ⟨rfl, ⟨fun b o e => ?_, fun b o e => ?_⟩, os, bare⟩
  · by_cases hb : b ∈ T
    · have hb' := hb
      rw [← hT] at hb'
      obtain ⟨p, hp, rfl⟩ := List.mem_map.mp hb'
      obtain ⟨us, hu⟩ := more hb
      have q := Option.some.inj ((tb p hp).symm.trans e)
      subst q
      exact .inr (.inl ⟨((cd p hp).tab (tb p hp)).isCodeTable, rfl, #[], us, rfl, by rw [Array.empty_append]; exact hu⟩)
    · exact .inl (old hb e)
  · by_cases hb : b ∈ T
    · obtain ⟨us, hu⟩ := more hb; exact ⟨_, hu⟩
    · exact ⟨o, old hb e⟩
end
/-- what is left of the law -/
def EndG (l : PySem.W.OpenLaw) (w : World) (K : PySem.W.Frag) (k n : Nat) (x : Str) (mg : Str → Option Value) (fa : Addr) (h : Heap) : Prop :=
  ∃ (fd : FuncData) (cs : List (Addr × Addr)) (sp : Sp), (∀ p ∈ cs, h.get? p.2 = some { cls := .none, data := .fields #[] }) ∧ (∀ p ∈ cs, K.lookup p.2 = none) ∧ (∀ p ∈ cs, PySem.W.CodeHd h p.1 p.2) ∧ (∀ (s : Shared) (u : Value), BindsTo s fd ⟨[u], []⟩ [(x, u)]) ∧
    (∀ (H : Hp) (a : Addr) (ns : List Int), ns.length ≤ n → (∀ z ∈ ns, Builtin.Int.intBits z ≤ 1048576) → (∀ p ∈ cs, H p.2 = some (.tbl #[])) → SqL K H a (ns.map V.int) → sp [.ref a] H (fun v _ => v = .bl true) fun _ _ _ => False) ∧
    ∀ B : Heap, K.In B → B.Ns mainGlobals mg → (StO h → StO B) → (∀ p ∈ cs, LamX.TabB B mg p.1 p.2) → FnG l.prog w K mg B CX0 k fa fd [x] sp
theorem walk_end {l : PySem.W.OpenLaw} {n k : Nat} {q : Program} {loose : List Str} {XP : (Str → Option Value) → Heap → Prop} {YP : World → Heap → Prop} {d : DefRec} {x : Str}
    (hn : l.most = some n) (hn2 : n ≤ sizeLine) (hdf : d.params.defaults = []) (hr : Room k callerA)
    (F : ∀ (w : World) (mg : Str → Option Value) (fa : Addr) (h : Heap), YP w h → h.Ns mainGlobals mg → mg d.name = some (.ref fa) → ∃ K : PySem.W.Frag, K.In h ∧ EndG l w K k n x mg fa h) :
    PySem.W.WalkO q loose XP YP l.row.toRowW d [] (fun f vs => PySem.call f vs) := by
  apply Att.attach_callB hn hdf
  intro w s₀ s mg mb fa o pm cd doc a vs ns G Y _ _ _ hmg scr int len bits gen
  obtain ⟨K, kin, fd, cs, sp, t1, t2, t3, bd, hs, hF⟩ := F w mg fa _ Y G.T.g hmg
  exact start_call kin G.T.g G.T.b G.T.builtins G.T.nolimit gen t1 t2 t3 G.T.bmain scr int (Nat.le_trans len hn2) hr hF bd fun H tH sH => hs H a ns len bits tH sH
theorem end_at {l : PySem.W.OpenLaw} {w : World} {K : PySem.W.Frag} {mg : Str → Option Value} {fa : Addr} {h : Heap} {k n : Nat} {x : Str} {fs : List He.Fa} {fn : List He.DefD} {gs : List GetD} {rs : List ErrD} {fd : FuncData} {F : FN} (KX : K.In h) (G : h.Ns mainGlobals mg)
    (c : SaysP fs fn gs rs (tfs.map (·.1)) w h K) (hb : ∀ (s : Shared) (u : Value), BindsTo s fd ⟨[u], []⟩ [(x, u)]) (hok : ∀ base, Wd fs fn gs rs K mg base → FnG l.prog w K mg base CX0 k fa fd [x] (spOf K ⟨mg, w⟩ 1 F))
    (hp : ∀ ns : List Int, ns.length ≤ n → (∀ z ∈ ns, Builtin.Int.intBits z ≤ 1048576) → F xF [.scr ns] (fun _ => none) fun x _ => x = .bl true) : EndG l w K k n x mg fa h := by
  have mem : ∀ {P : Addr × Addr → Prop}, (∀ p ∈ tfs.map (·.1), P (He.cT K p)) → ∀ p ∈ (tfs.map (·.1)).map (He.cT K), P p := fun {P} f p hp => by
    obtain ⟨q, hq, rfl⟩ := List.mem_map.mp hp
    exact f q hq
  refine ⟨fd, (tfs.map (·.1)).map (He.cT K), spOf K ⟨mg, w⟩ 1 F, mem c.x.empty, mem c.x.out, mem fun p hp => PySem.W.codeHd_of_K KX (c.x.hd p hp), hb, fun H a ns hl hbits hT hS => ?_, fun base KB GB SB TB => hok base ⟨⟨base, KB, GB⟩, c.x.t.d, c.g, c.r, fun hr => SB (c.s hr), c.x.more, fun p hp => TB _ (List.mem_map.mpr ⟨p, hp, rfl⟩)⟩⟩
  refine ⟨fun _ => False, fun _ => none, [.scr ns], xF, _, rfl, ⟨fun p hp => ?_, fun a o e => by simp at e, fun a z => z.elim⟩, .one ⟨a, rfl, ?_⟩, .no, hp ns hl hbits, fun eh' H' x v _ _ r e => ?_⟩
  · unfold tabT at hp
    obtain ⟨q, hq, rfl⟩ := List.mem_map.mp hp
    exact .nil (hT _ (List.mem_map.mpr ⟨q.1, List.mem_map.mpr ⟨q, hq, rfl⟩, rfl⟩))
  · rcases hS with (h | h) | h
    · exact .inr (.inl ⟨h, rfl, fun z => z⟩)
    · exact .inl h
    · exact .inr (.inr h)
  · subst e; exact r
end VM

/-! VMP: backward steps through the shallow terms; data; ghosts on heaps. -/
namespace VM
open PySem PySem.Spec PyProof.Rows L2
section
variable {xc : XC} {d : Dn} {es : Es} {eh eh' : Eh} {q : KE} {ql : List EV → Eh → Prop} {qt : Bool → Eh → Prop} {qi : List EV → (Eh → Prop) → Eh → Prop} {qo : Option Int → Eh → Prop} {a b c : ME} {t u : MS} {mt mu : MT} {r : MA} {o o' : EO2} {x y z : EV} {i j n : Int}
theorem fn_i {N : Nat} {xs : List EV} (h : t xc { nx := fun _ eh => q .non eh, rt := q } (xs.map some ++ List.replicate (N - xs.length) none) eh) : fnOf N t xc xs eh q := h
theorem seq_i (h : t xc { d with nx := fun es' eh' => u xc d es' eh' } es eh) : sSeq t u xc d es eh := h
theorem next_i (h : d.nx es eh) : sNext xc d es eh := h
theorem brk_i (h : d.bk es eh) : sBreak xc d es eh := h
theorem cont_i (h : d.ct es eh) : sCont xc d es eh := h
theorem expr_i (h : a xc es eh fun _ eh1 => d.nx es eh1) : sExpr a xc d es eh := h
theorem ret_i (h : a xc es eh d.rt) : sRet a xc d es eh := h
theorem retN_i (h : d.rt .non eh) : sRetN xc d es eh := h
theorem set_i {k : Nat} (h : a xc es eh fun x eh1 => d.nx (es.set k (some x)) eh1) : sSet k a xc d es eh := h
theorem if_i (h : mt xc es eh fun b eh1 => cond b (t xc d es eh1) (u xc d es eh1)) : sIf mt t u xc d es eh := by
  have e : (fun (b : Bool) (eh1 : Eh) => cond b (t xc d es eh1) (u xc d es eh1)) = fun b eh1 => match b with | true => t xc d es eh1 | false => u xc d es eh1 := by funext b eh1; cases b <;> rfl
  rw [e] at h; exact h
theorem asg_i {g : Tg} (h : a xc es eh fun x eh1 => ∃ es', asg g x es = some es' ∧ d.nx es' eh1) : sAsg g a xc d es eh := h
theorem par_i {i j : Nat} (h : r xc es eh fun xs eh1 => ∃ x y, xs = [x, y] ∧ d.nx ((es.set i (some x)).set j (some y)) eh1) : sPar i j r xc d es eh := h
theorem fld_s {cn f : Str} (h : b xc es eh fun y eh1 => a xc es eh1 fun x eh2 => ∃ p fs, x = .ref p ∧ eh2 p = some (.ins cn fs) ∧ fs.length < 1000 ∧ d.nx es (eupd eh2 p (some (.ins cn (putE f y fs))))) : sFldE cn f a b xc d es eh := h
theorem dput_i (h : c xc es eh fun v eh1 => a xc es eh1 fun x eh2 => b xc es eh2 fun y eh3 => ∃ p kvs k, x = .ref p ∧ eh3 p = some (.dct kvs) ∧ keyE y = some k ∧ kvs.length < sizeLine ∧ d.nx es (eupd eh3 p (some (.dct (putKE kvs k v))))) : sDPutE a b c xc d es eh := h
theorem lput_i (h : c xc es eh fun v eh1 => a xc es eh1 fun x eh2 => b xc es eh2 fun y eh3 => ∃ p xs i j, x = .ref p ∧ eh3 p = some (.lst xs) ∧ y = .int i ∧ ixN xs.length i = some j ∧ d.nx es (eupd eh3 p (some (.lst (xs.set j v))))) : sLPutN a b c xc d es eh := h
theorem for_i {mi : MI} {g : Tg} (h : mi xc es eh fun xs ok eh1 => forL g t ok xc d xs es eh1) : sFor mi g t xc d es eh := h
theorem forL_cons {g : Tg} {ok : Eh → Prop} {x : EV} {xs : List EV} {es' : Es} (h1 : ok eh) (h2 : asg g x es = some es') (h3 : t xc { d with nx := fun es1 eh1 => forL g t ok xc d xs es1 eh1, ct := fun es1 eh1 => forL g t ok xc d xs es1 eh1, bk := d.nx } es' eh) : forL g t ok xc d (x :: xs) es eh := ⟨h1, es', h2, h3⟩
theorem forL_nil {g : Tg} {ok : Eh → Prop} (h1 : ok eh) (h : d.nx es eh) : forL g t ok xc d [] es eh := ⟨h1, h⟩
theorem compL_cons {g : Tg} {tt : MT} {te : ME} {vs : List Nat} {ok : Eh → Prop} {x : EV} {xs acc : List EV} {es' : Es} (h1 : ok eh) (h2 : asg g x (wipeE es vs) = some es') (h3 : tt xF es' eh fun b eh1 => cond b (te xF es' eh1 fun y eh2 => acc.length < sizeLine ∧ compL g tt te vs ok q xs (acc ++ [y]) es eh2) (compL g tt te vs ok q xs acc es eh1)) : compL g tt te vs ok q (x :: xs) acc es eh := by
  refine ⟨h1, es', h2, ?_⟩
  have e : (fun (b : Bool) (eh1 : Eh) => cond b (te xF es' eh1 fun y eh2 => acc.length < sizeLine ∧ compL g tt te vs ok q xs (acc ++ [y]) es eh2) (compL g tt te vs ok q xs acc es eh1)) = fun b eh1 => match b with
    | true => te xF es' eh1 fun y eh2 => acc.length < sizeLine ∧ compL g tt te vs ok q xs (acc ++ [y]) es eh2
    | false => compL g tt te vs ok q xs acc es eh1 := by funext k eh1; cases k <;> rfl
  rw [e] at h3; exact h3
theorem compL_nil {g : Tg} {tt : MT} {te : ME} {vs : List Nat} {ok : Eh → Prop} {acc : List EV} (h1 : ok eh) (h : q (.lst acc) eh) : compL g tt te vs ok q [] acc es eh := ⟨h1, h⟩
/-! expressions -/
theorem c_i (h : q x eh) : mC x xc es eh q := h
theorem var_i {k : Nat} (e : es[k]? = some (some x)) (h : q x eh) : mVar k xc es eh q := by unfold mVar; rw [e]; exact h
theorem op_i (h : a xc es eh fun x eh1 => b xc es eh1 fun y eh2 => o x y eh2 q) : mOp o a b xc es eh q := h
theorem un_i {o : EO1} (h : a xc es eh fun x eh1 => o x eh1 q) : mUn o a xc es eh q := h
theorem chain_i (h : a xc es eh fun x eh1 => b xc es eh1 fun y eh2 => o x y eh2 fun z eh3 => ∃ k, z = .bl k ∧ cond k (c xc es eh3 fun w eh4 => o' y w eh4 q) (q (.bl false) eh3)) : mChain o o' a b c xc es eh q := by
  have e : ∀ y, (fun (z : EV) (eh3 : Eh) => ∃ k, z = .bl k ∧ cond k (c xc es eh3 fun w eh4 => o' y w eh4 q) (q (.bl false) eh3)) = fun z eh3 => match z with
    | .bl true => c xc es eh3 fun w eh4 => o' y w eh4 q
    | .bl false => q (.bl false) eh3
    | _ => False := fun y => by
      funext z eh3
      apply propext
      cases z with
      | bl k => cases k <;> simp
      | _ => simp
  simp only [e] at h; exact h
theorem ife_i (h : mt xc es eh fun k eh1 => cond k (a xc es eh1 q) (b xc es eh1 q)) : mIf mt a b xc es eh q := by
  have e : (fun (k : Bool) (eh1 : Eh) => cond k (a xc es eh1 q) (b xc es eh1 q)) = fun k eh1 => match k with | true => a xc es eh1 q | false => b xc es eh1 q := by funext k eh1; cases k <;> rfl
  rw [e] at h; exact h
theorem anil_i (h : ql [] eh) : aNil xc es eh ql := h
theorem acons_i (h : a xc es eh fun x eh1 => r xc es eh1 fun xs eh2 => ql (x :: xs) eh2) : aCons a r xc es eh ql := h
theorem astar_i (h : a xc es eh fun x eh1 => ∃ ys, seqE eh1 x = some ys ∧ r xc es eh1 fun xs eh2 => ql (ys ++ xs) eh2) : aStar a r xc es eh ql := h
theorem tup_i (h : r xc es eh fun xs eh1 => xs.length ≤ sizeLine ∧ q (.tup xs) eh1) : mTup r xc es eh q := h
theorem lst_i (h : r xc es eh fun xs eh1 => xs.length ≤ sizeLine ∧ q (.lst xs) eh1) : mLst r xc es eh q := h
theorem lstR_i (h : r xc es eh fun xs eh1 => xs.length ≤ sizeLine ∧ ∀ p, eh1 p = none → q (.ref p) (eupd eh1 p (some (.lst xs)))) : mLstR r xc es eh q := h
theorem fld_i {cn f : Str} (h : a xc es eh fun x eh1 => ∃ fs v, insE eh1 x = some (cn, fs) ∧ fs.lookup f = some v ∧ q v eh1) : mFld cn f a xc es eh q := h
theorem dnew_i (h : ∀ p, eh p = none → q (.ref p) (eupd eh p (some (.dct [])))) : mDNew xc es eh q := h
theorem cb_i {o : EOL} (h : r xc es eh fun xs eh1 => o xs eh1 q) : mCB o r xc es eh q := h
theorem bm_i {p : Eh → EV → Prop} {o : EV → EOL} (h : a xc es eh fun x eh1 => p eh1 x ∧ r xc es eh1 fun xs eh2 => o x xs eh2 q) : mBM p o a r xc es eh q := h
theorem sl_i {o : EOS} {lo hi} (h : a xc es eh fun x eh1 => lo xc es eh1 fun l eh2 => hi xc es eh2 fun h eh3 => o x l h eh3 q) : mSl o a lo hi xc es eh q := h
theorem no_i (h : qo none eh) : mNo xc es eh qo := h
theorem pt_i (h : a xc es eh fun x eh1 => ∃ i, x = .int i ∧ qo (some i) eh1) : mPt a xc es eh qo := by
  have e : (fun (x : EV) (eh1 : Eh) => ∃ i, x = .int i ∧ qo (some i) eh1) = fun x eh1 => match x with | .int i => qo (some i) eh1 | _ => False := by
    funext x eh1; apply propext; cases x <;> simp
  rw [e] at h; exact h
theorem call_i {F : FN} {m : Nat} {dx : List EV} (h : r xc es eh fun xs eh1 => (xs ++ dx).length = m ∧ F xc (xs ++ dx) eh1 q) : mCall F m dx r xc es eh q := h
theorem calln_i {F : FN} {N n m : Nat} {gE} {tk : MA} (h : r xc es eh fun xs eh1 => tk xc es eh1 fun zs eh2 => xs.length = n ∧ zs.length = m ∧ (gE xs zs).length = N ∧ F xc (gE xs zs) eh2 q) : mCallN F N n m gE r tk xc es eh q := h
theorem make_i {cn : Str} {F : FN} {m : Nat} {dx : List EV} (h : r xc es eh fun xs eh1 => (xs ++ dx).length + 1 = m ∧ ∀ p, eh1 p = none → F xc (.ref p :: (xs ++ dx)) (eupd eh1 p (some (.ins cn []))) fun v eh2 => v = .non ∧ q (.ref p) eh2) : mMake cn F m dx r xc es eh q := h
theorem prop_i {cn : Str} {F : FN} {m : Nat} {dx : List EV} (h : a xc es eh fun x eh1 => ∃ fs, insE eh1 x = some (cn, fs) ∧ dx.length + 1 = m ∧ F xc (x :: dx) eh1 q) : mProp cn F m dx a xc es eh q := h
theorem meth_i {cn mn : Str} {F : FN} {m : Nat} {dx : List EV} (h : a xc es eh fun x eh1 => ∃ fs, insE eh1 x = some (cn, fs) ∧ fs.lookup mn = none ∧ r xc es eh1 fun xs eh2 => (x :: (xs ++ dx)).length = m ∧ F xc (x :: (xs ++ dx)) eh2 q) : mMeth cn mn F m dx a r xc es eh q := h
theorem fz_i {k : Nat} (h : a xc es eh fun x eh1 => q (fz (nw eh) eh1 k x) (drE (nw eh) eh1)) : mFz k a xc es eh q := h
/-- a call whose result is frozen -/
def FZ (S : Addr → Bool) (F : FN) (xc : XC) (xs : List EV) (eh : Eh) (q : KE) : Prop := F xc xs eh fun x eh1 => q (fz S eh1 9 x) (drE S eh1)
def MZ (S : Addr → Bool) (cn : Str) (F : FN) (xc : XC) (xs : List EV) (eh : Eh) (q : KE) : Prop := ∀ p, eh p = none → F xc (.ref p :: xs) (eupd eh p (some (.ins cn []))) fun v eh2 => v = .non ∧ q (fz S eh2 9 (.ref p)) (drE S eh2)
theorem fzc_i {F : FN} {m : Nat} {dx : List EV} (h : r xc es eh fun xs eh1 => (xs ++ dx).length = m ∧ FZ (nw eh) F xc (xs ++ dx) eh1 q) : mFz 9 (mCall F m dx r) xc es eh q := h
theorem fzn_i {F : FN} {N n m : Nat} {gE} {tk : MA} (h : r xc es eh fun xs eh1 => tk xc es eh1 fun zs eh2 => xs.length = n ∧ zs.length = m ∧ (gE xs zs).length = N ∧ FZ (nw eh) F xc (gE xs zs) eh2 q) : mFz 9 (mCallN F N n m gE r tk) xc es eh q := h
theorem fzp_i {cn : Str} {F : FN} {m : Nat} {dx : List EV} (h : a xc es eh fun x eh1 => ∃ fs, insE eh1 x = some (cn, fs) ∧ dx.length + 1 = m ∧ FZ (nw eh) F xc (x :: dx) eh1 q) : mFz 9 (mProp cn F m dx a) xc es eh q := h
theorem fzm_i {cn mn : Str} {F : FN} {m : Nat} {dx : List EV} (h : a xc es eh fun x eh1 => ∃ fs, insE eh1 x = some (cn, fs) ∧ fs.lookup mn = none ∧ r xc es eh1 fun xs eh2 => (x :: (xs ++ dx)).length = m ∧ FZ (nw eh) F xc (x :: (xs ++ dx)) eh2 q) : mFz 9 (mMeth cn mn F m dx a r) xc es eh q := h
theorem fzk_i {cn : Str} {F : FN} {m : Nat} {dx : List EV} (h : r xc es eh fun xs eh1 => (xs ++ dx).length + 1 = m ∧ MZ (nw eh) cn F xc (xs ++ dx) eh1 q) : mFz 9 (mMake cn F m dx r) xc es eh q := h
theorem nw_eupd {p : Addr} {u : EO} (h : eh p ≠ none) : nw (eupd eh p (some u)) = nw eh := by
  funext c
  unfold nw eupd
  by_cases hc : c = p
  · subst hc; cases e : eh c <;> simp_all
  · simp [hc]
theorem fzF_i {k m : Nat} {cn f : Str} (h : ∃ p fs w, es[k]? = some (some (.ref p)) ∧ eh p = some (.ins cn fs) ∧ fs.lookup f = some (.ref w) ∧ w ≠ p ∧ t xc d es (eupd (drE (fun b => b == w) eh) p (some (.ins cn (putE f (fz (fun b => b == w) eh m (.ref w)) fs))))) : sFzF k cn f m t xc d es eh := h
theorem fzV_i {k : Nat} {p : Addr} {xs : List EV} (e1 : es[k]? = some (some (.ref p))) (e2 : eh p = some (.lst xs)) (h : t xc d (es.set k (some (.lst xs))) (eupd eh p none)) : sFzV k t xc d es eh := ⟨p, xs, e1, e2, h⟩
theorem methn_i {cn mn : Str} {F : FN} {N m : Nat} {gE} {tk : MA} (h : a xc es eh fun x eh1 => ∃ fs, insE eh1 x = some (cn, fs) ∧ fs.lookup mn = none ∧ tk xc es eh1 fun zs eh2 => zs.length = m ∧ (gE [x] zs).length = N ∧ FZ (nw eh) F xc (gE [x] zs) eh2 q) : mFz 9 (mMethN cn mn F N m gE a tk) xc es eh q := h
theorem max2_i (h : q (.int (if i < j then j else i)) eh) : bMax [.int i, .int j] eh q := h
theorem sortk_i (h : a xc es eh fun x eh1 => ∃ xs, lstE eh1 x = some xs ∧ xs.all isK0 = true ∧ q (.lst (sortK0 xs)) eh1) : mSortK0 a xc es eh q := h
theorem comp_i {mi : MI} {g : Tg} {tt : MT} {te : ME} {vs : List Nat} (h : mi xc es eh fun xs ok eh1 => compL g tt te vs ok q xs [] es eh1) : mComp mi g tt te vs xc es eh q := h
theorem comp2_i {mi mi1 : MI} {g g1 : Tg} {tt tt1 : MT} {te : ME} {vs vs1 : List Nat} (h : mi xc es eh fun xs ok eh1 => comp2L g tt mi1 g1 tt1 te vs vs1 ok q xs [] es eh1) : mComp2 mi g tt mi1 g1 tt1 te vs vs1 xc es eh q := h
/-! tests -/
theorem val_i (h : a xc es eh fun x eh1 => ∃ k, x = .bl k ∧ qt k eh1) : tVal a xc es eh qt := by
  have e : (fun (x : EV) (eh1 : Eh) => ∃ k, x = .bl k ∧ qt k eh1) = fun x eh1 => match x with | .bl b => qt b eh1 | _ => False := by
    funext x eh1; apply propext; cases x <;> simp
  rw [e] at h; exact h
theorem tru_i (h : a xc es eh fun x eh1 => ∃ k, truE eh1 x = some k ∧ qt k eh1) : tTru a xc es eh qt := by
  have e : (fun (x : EV) (eh1 : Eh) => ∃ k, truE eh1 x = some k ∧ qt k eh1) = fun x eh1 => match truE eh1 x with | some b => qt b eh1 | none => False := by
    funext x eh1; apply propext; cases truE eh1 x <;> simp
  rw [e] at h; exact h
theorem tand_i (h : mt xc es eh fun k eh1 => cond k (mu xc es eh1 qt) (qt false eh1)) : tAnd mt mu xc es eh qt := by
  have e : (fun (k : Bool) (eh1 : Eh) => cond k (mu xc es eh1 qt) (qt false eh1)) = fun k eh1 => match k with | true => mu xc es eh1 qt | false => qt false eh1 := by funext k eh1; cases k <;> rfl
  rw [e] at h; exact h
theorem tor_i (h : mt xc es eh fun k eh1 => cond k (qt true eh1) (mu xc es eh1 qt)) : tOr mt mu xc es eh qt := by
  have e : (fun (k : Bool) (eh1 : Eh) => cond k (qt true eh1) (mu xc es eh1 qt)) = fun k eh1 => match k with | true => qt true eh1 | false => mu xc es eh1 qt := by funext k eh1; cases k <;> rfl
  rw [e] at h; exact h
theorem tnot_i (h : mt xc es eh fun k eh1 => qt (!k) eh1) : tNot mt xc es eh qt := h
theorem tyes_i (h : qt true eh) : tYesE xc es eh qt := h
theorem mand_i (h : a xc es eh fun x eh1 => ∃ k, x = .bl k ∧ cond k (b xc es eh1 q) (q (.bl false) eh1)) : mAnd a b xc es eh q := by
  have e : (fun (x : EV) (eh1 : Eh) => ∃ k, x = .bl k ∧ cond k (b xc es eh1 q) (q (.bl false) eh1)) = fun x eh1 => match x with | .bl true => b xc es eh1 q | .bl false => q (.bl false) eh1 | _ => False := by
    funext x eh1; apply propext
    cases x with
    | bl k => cases k <;> simp
    | _ => simp
  rw [e] at h; exact h
theorem mor_i (h : a xc es eh fun x eh1 => ∃ k, x = .bl k ∧ cond k (q (.bl true) eh1) (b xc es eh1 q)) : mOr a b xc es eh q := by
  have e : (fun (x : EV) (eh1 : Eh) => ∃ k, x = .bl k ∧ cond k (q (.bl true) eh1) (b xc es eh1 q)) = fun x eh1 => match x with | .bl true => q (.bl true) eh1 | .bl false => b xc es eh1 q | _ => False := by
    funext x eh1; apply propext
    cases x with
    | bl k => cases k <;> simp
    | _ => simp
  rw [e] at h; exact h
theorem mnot_i (h : a xc es eh fun x eh1 => ∃ k, x = .bl k ∧ q (.bl (!k)) eh1) : mNot a xc es eh q := by
  have e : (fun (x : EV) (eh1 : Eh) => ∃ k, x = .bl k ∧ q (.bl (!k)) eh1) = fun x eh1 => match x with | .bl c => q (.bl (!c)) eh1 | _ => False := by
    funext x eh1; apply propext; cases x <;> simp
  rw [e] at h; exact h
/-! values -/
theorem bl_i {k : Bool} {P : Bool → Prop} (h : P k) : ∃ k', EV.bl k = .bl k' ∧ P k' := ⟨k, rfl, h⟩
theorem cT_i {A B : Prop} (h : A) : cond true A B := h
theorem cF_i {A B : Prop} (h : B) : cond false A B := h
theorem cD_i {p : Prop} [Decidable p] {A B : Prop} (h1 : p → A) (h2 : ¬ p → B) : cond (decide p) A B := by by_cases hp : p <;> simp [hp, h1, h2]
theorem cN_i {p : Prop} [Decidable p] {A B : Prop} (h1 : ¬ p → A) (h2 : p → B) : cond (!decide p) A B := by by_cases hp : p <;> simp [hp, h1, h2]
theorem add_i (h : q (.int (i + j)) eh) : oAdd (.int i) (.int j) eh q := h
theorem sub_i (h : q (.int (i - j)) eh) : oSub (.int i) (.int j) eh q := h
theorem mul_i (c : MulC i j) (h : q (.int (i * j)) eh) : oMul (.int i) (.int j) eh q := ⟨c, h⟩
theorem div_i (c : 0 < j ∧ j.natAbs.log2 < 9000) (h : q (.int (i / j)) eh) : oDiv (.int i) (.int j) eh q := ⟨c, h⟩
theorem mod_i (c : 0 < j) (h : q (.int (i % j)) eh) : oMod (.int i) (.int j) eh q := ⟨c, h⟩
theorem pow_i (c : 0 ≤ j ∧ (Builtin.Int.intBits i : Int) * j ≤ 2 ^ 27) (h : q (.int (i ^ j.toNat)) eh) : oPow (.int i) (.int j) eh q := ⟨c, h⟩
theorem neg_i (h : q (.int (-i)) eh) : oNeg (.int i) eh q := h
theorem lt_i (h : q (.bl (decide (i < j))) eh) : oLt (.int i) (.int j) eh q := h
theorem le_i (h : q (.bl (decide (i ≤ j))) eh) : oLe (.int i) (.int j) eh q := h
theorem gt_i (h : q (.bl (decide (j < i))) eh) : oGt (.int i) (.int j) eh q := h
theorem ge_i (h : q (.bl (decide (j ≤ i))) eh) : oGe (.int i) (.int j) eh q := h
theorem eqI_i (h : q (.bl (decide (i = j))) eh) : cEq false (.int i) (.int j) eh q := by unfold cEq; simpa using h
theorem neI_i (h : q (.bl (!decide (i = j))) eh) : cEq true (.int i) (.int j) eh q := by unfold cEq; simpa using h
theorem eqS_i {s s' : Str} (h : q (.bl (decide (s = s'))) eh) : cEq false (.str s) (.str s') eh q := by unfold cEq; simpa using h
theorem int_i (h : q (.int i) eh) : bInt [.int i] eh q := h
theorem abs_i (h : q (.int (if i < 0 then -i else i)) eh) : bAbs [.int i] eh q := h
theorem min2_i (h : q (.int (if j < i then j else i)) eh) : bMin [.int i, .int j] eh q := h
theorem ix_i {xs : List EV} (e : seqE eh x = some xs) (ez : atI xs i = some z) (h : q z eh) : oIx x (.int i) eh q := by
  unfold oIx
  cases x <;> first | exact .inl ⟨_, _, _, e, rfl, ez, h⟩ | (simp [seqE] at e)
theorem ixd_i {kvs : List (Key × EV)} {k : Key} (e : dctE eh x = some kvs) (ek : keyE y = some k) (ez : getK kvs k = some z) (h : q z eh) : oIx x y eh q := by
  unfold oIx
  cases x <;> first | exact .inr ⟨_, _, _, e, ek, ez, h⟩ | (simp [dctE] at e)
theorem len_i {xs : List EV} (e : seqE eh x = some xs) (h : q (.int xs.length) eh) : bLen [x] eh q := by
  unfold bLen
  cases x <;> first | exact .inl ⟨_, e, h⟩ | (simp [seqE] at e)
theorem lenS_i {s : Str} (e : s.length ≤ sizeLine) (h : q (.int s.length) eh) : bLen [.str s] eh q := ⟨e, h⟩
theorem tuple_i {xs : List EV} (e : seqE eh x = some xs) (h : q (.tup xs) eh) : bTuple [x] eh q := by
  unfold bTuple
  cases x <;> first | exact ⟨_, e, h⟩ | (cases e; exact h)
theorem list_i {xs : List EV} (e : seqE eh x = some xs) (h : q (.lst xs) eh) : bList [x] eh q := ⟨_, e, h⟩
theorem any_i {m : ME} (h : m xc es eh fun x eh1 => ∃ xs ok, walkE eh1 x = some (xs, ok) ∧ qi xs ok eh1) : iAny m xc es eh qi := h
theorem rng1_i {m : MA} (h : m xc es eh fun xs eh1 => ∃ j, xs = [.int j] ∧ (-(2 ^ 62) ≤ j ∧ j < 2 ^ 62) ∧ qi ((List.range j.toNat).map fun (i : Nat) => .int (i : Int)) (fun _ => True) eh1) : iRange1 m xc es eh qi := by
  have e : (fun (xs : List EV) (eh1 : Eh) => ∃ j, xs = [.int j] ∧ (-(2 ^ 62) ≤ j ∧ j < 2 ^ 62) ∧ qi ((List.range j.toNat).map fun (i : Nat) => .int (i : Int)) (fun _ => True) eh1) = fun xs eh1 => match xs with
    | [.int j] => (-(2 ^ 62) ≤ j ∧ j < 2 ^ 62) ∧ qi ((List.range j.toNat).map fun (i : Nat) => .int (i : Int)) (fun _ => True) eh1
    | _ => False := by
    funext xs eh1; apply propext
    split
    · constructor
      · rintro ⟨j, e, h⟩; cases e; exact h
      · exact fun h => ⟨_, rfl, h⟩
    · rename_i hn
      constructor
      · rintro ⟨j, e, _⟩; exact hn j e
      · exact False.elim
  rw [e] at h; exact h
theorem enum_i {m : MA} (h : m xc es eh fun xs eh1 => ∃ x ys ok, xs = [x] ∧ srcL eh1 x = some (ys, ok) ∧ qi (ys.mapIdx fun i x => .tup [.int (i : Nat), x]) ok eh1) : iEnumM m xc es eh qi := by
  have e : (fun (xs : List EV) (eh1 : Eh) => ∃ x ys ok, xs = [x] ∧ srcL eh1 x = some (ys, ok) ∧ qi (ys.mapIdx fun i x => .tup [.int (i : Nat), x]) ok eh1) = fun xs eh1 => match xs with
    | [x] => ∃ ys ok, srcL eh1 x = some (ys, ok) ∧ qi (ys.mapIdx fun i x => .tup [.int (i : Nat), x]) ok eh1
    | _ => False := by
    funext xs eh1; apply propext
    split
    · constructor
      · rintro ⟨j, ys, ok, e, h⟩; cases e; exact ⟨_, _, h⟩
      · rintro ⟨ys, ok, h⟩; exact ⟨_, ys, ok, rfl, h⟩
    · rename_i hn
      constructor
      · rintro ⟨j, _, _, e, _⟩; exact hn j e
      · exact False.elim
  rw [e] at h; exact h
def zipP (qi : List EV → (Eh → Prop) → Eh → Prop) (xs : List EV) (eh1 : Eh) : Prop := match xs with
  | [x, y] => (∃ xs ys, srcT x = some xs ∧ srcT y = some ys ∧ qi ((xs.zip ys).map fun p => .tup [p.1, p.2]) (fun _ => True) eh1) ∨
      ∃ xs ys ok ok', srcL eh1 x = some (xs, ok) ∧ srcL eh1 y = some (ys, ok') ∧ qi ((xs.zip ys).map fun p => .tup [p.1, p.2]) (fun h => ok h ∧ ok' h) eh1
  | _ => False
theorem zip_i {m : MA} (h : m xc es eh fun xs eh1 => zipP qi xs eh1) : iZipM m xc es eh qi := h
theorem zipT_i {us vs : List EV} (h : qi ((us.zip vs).map fun p => .tup [p.1, p.2]) (fun _ => True) eh) : zipP qi [.tup us, .tup vs] eh := .inl ⟨us, vs, rfl, rfl, h⟩
theorem items_i {m : ME} (h : m xc es eh fun x eh1 => ∃ kvs, x = .dct kvs ∧ qi (kvs.map fun p => .tup [keyV p.1, p.2]) (fun _ => True) eh1) : iItemsM m xc es eh qi := by
  have e : (fun (x : EV) (eh1 : Eh) => ∃ kvs, x = .dct kvs ∧ qi (kvs.map fun p => .tup [keyV p.1, p.2]) (fun _ => True) eh1) = fun x eh1 => match x with
    | .dct kvs => qi (kvs.map fun p => .tup [keyV p.1, p.2]) (fun _ => True) eh1
    | _ => False := by
    funext x eh1; apply propext; cases x <;> simp
  rw [e] at h; exact h
theorem drE_same {a : Addr} {s : EO} (h : eh a ≠ none) : drE (nw eh) (eupd eh a (some s)) = eupd eh a (some s) := by
  funext b
  unfold drE nw eupd
  by_cases hb : b = a
  · subst hb; cases e : eh b <;> simp_all
  · cases e : eh b <;> simp [hb, e]
theorem drE_self : drE (nw eh) eh = eh := by
  funext b
  unfold drE nw
  cases e : eh b <;> simp [e]
end
end VM

/-! VMQ: comprehensions and loops at once: maps, filters, invariants; equality of data. -/
namespace VM
open PySem PySem.Spec PyProof.Rows L2
theorem szL {n : Nat} (h : n ≤ 5000) : n ≤ sizeLine := Nat.le_trans h (by decide)
theorem szT {n : Nat} (h : n ≤ 5000) : n < sizeLine := Nat.lt_of_le_of_lt h (by decide)
section
variable {xc : XC} {d : Dn} {es : Es} {eh eh' : Eh} {q : KE} {qt : Bool → Eh → Prop} {g : Tg} {te : ME} {tt : MT} {t : MS} {vs : List Nat} {ok : Eh → Prop} {α : Type}
/-- an element that is a function of the item -/
theorem comp_map {c f : α → EV} : ∀ {L : List α} {acc : List EV}, ok eh → acc.length + L.length ≤ 5000 → (∀ a ∈ L, ∃ es', asg g (c a) (wipeE es vs) = some es' ∧ ∀ q' : KE, q' (f a) eh → te xF es' eh q') → q (.lst (acc ++ L.map f)) eh →
    compL g tYesE te vs ok q (L.map c) acc es eh
  | [], acc, ho, _, _, k => ⟨ho, by simpa using k⟩
  | a :: L, acc, ho, hl, h, k => by
    simp only [List.length_cons] at hl
    obtain ⟨es', e, b⟩ := h a (by simp)
    exact ⟨ho, es', e, b _ ⟨szT (by omega), comp_map ho (by simp; omega) (fun x hx => h x (by simp [hx])) (by simpa using k)⟩⟩
/-- with a test that is a function of the item -/
theorem comp_filter {c f : α → EV} {p : α → Bool} : ∀ {L : List α} {acc : List EV}, ok eh → acc.length + L.length ≤ 5000 →
    (∀ a ∈ L, ∃ es', asg g (c a) (wipeE es vs) = some es' ∧ (∀ qt : Bool → Eh → Prop, qt (p a) eh → tt xF es' eh qt) ∧ (p a = true → ∀ q' : KE, q' (f a) eh → te xF es' eh q')) → q (.lst (acc ++ (L.filter p).map f)) eh →
    compL g tt te vs ok q (L.map c) acc es eh
  | [], acc, ho, _, _, k => ⟨ho, by simpa using k⟩
  | a :: L, acc, ho, hl, h, k => by
    simp only [List.length_cons] at hl
    obtain ⟨es', e, b, b'⟩ := h a (by simp)
    refine ⟨ho, es', e, b _ ?_⟩
    cases hp : p a with
    | true => exact b' hp _ ⟨szT (by omega), comp_filter ho (by simp; omega) (fun x hx => h x (by simp [hx])) (by simpa [hp] using k)⟩
    | false => exact comp_filter ho (by omega) (fun x hx => h x (by simp [hx])) (by simpa [hp] using k)
/-- elements that change the heap -/
theorem comp_inv {c : α → EV} (J : List EV → List α → Eh → Prop) : ∀ {L : List α} {acc : List EV} {eh : Eh}, J acc L eh → acc.length + L.length ≤ 5000 →
    (∀ acc a L eh, J acc (a :: L) eh → ok eh ∧ ∃ es', asg g (c a) (wipeE es vs) = some es' ∧ ∀ q' : KE, (∀ y eh', J (acc ++ [y]) L eh' → q' y eh') → te xF es' eh q') → (∀ acc eh, J acc [] eh → ok eh ∧ q (.lst acc) eh) →
    compL g tYesE te vs ok q (L.map c) acc es eh
  | [], acc, eh, h, _, _, k => k _ _ h
  | a :: L, acc, eh, h, hl, st, k => by
    simp only [List.length_cons] at hl
    obtain ⟨ho, es', e, b⟩ := st _ _ _ _ h
    exact ⟨ho, es', e, b _ fun y eh' h' => ⟨szT (by omega), comp_inv J h' (by simp; omega) st k⟩⟩
/-- a loop by its invariant: what is left, the slots, the heap -/
theorem for_inv {c : α → EV} (J : List α → Es → Eh → Prop) : ∀ {L : List α} {es : Es} {eh : Eh}, J L es eh →
    (∀ a L es eh, J (a :: L) es eh → ok eh ∧ ∃ es', asg g (c a) es = some es' ∧ ∀ d' : Dn, d'.rt = d.rt → (∀ es1 eh1, J L es1 eh1 → d'.nx es1 eh1) → (∀ es1 eh1, J L es1 eh1 → d'.ct es1 eh1) → (∀ es1 eh1, d.nx es1 eh1 → d'.bk es1 eh1) → t xc d' es' eh) →
    (∀ es eh, J [] es eh → ok eh ∧ d.nx es eh) → forL g t ok xc d (L.map c) es eh
  | [], es, eh, h, _, k => k _ _ h
  | a :: L, es, eh, h, st, k => by
    obtain ⟨ho, es', e, b⟩ := st _ _ _ _ h
    exact ⟨ho, es', e, b _ rfl (fun es1 eh1 h1 => for_inv J h1 st k) (fun es1 eh1 h1 => for_inv J h1 st k) fun es1 eh1 h => h⟩
/-- a while loop by a measure -/
theorem whileN_inv {c : MT} (J : Nat → Es → Eh → Prop)
    (st : ∀ n es eh, J n es eh → ∀ qt : Bool → Eh → Prop, (∀ b eh1, (b = true → ∀ d' : Dn, d'.rt = d.rt → (∀ m es1 eh1, m < n → J m es1 eh1 → d'.nx es1 eh1) → (∀ m es1 eh1, m < n → J m es1 eh1 → d'.ct es1 eh1) → (∀ es1 eh1, d.nx es1 eh1 → d'.bk es1 eh1) → t xc d' es eh1) → (b = false → d.nx es eh1) → qt b eh1) → c xc es eh qt) :
    ∀ (N n : Nat) {es : Es} {eh : Eh}, n < N → J n es eh → whileN c t xc d N es eh
  | 0, _, _, _, h, _ => absurd h (Nat.not_lt_zero _)
  | N + 1, n, es, eh, h, j => by
    refine st n es eh j _ fun b eh1 h1 h2 => ?_
    cases b with
    | true => exact h1 rfl _ rfl (fun m es1 eh1 hm jm => whileN_inv J st N m (by omega) jm) (fun m es1 eh1 hm jm => whileN_inv J st N m (by omega) jm) fun es1 eh1 h => h
    | false => exact h2 rfl
theorem while_inv {c : MT} (J : Nat → Es → Eh → Prop) (n : Nat) (j : J n es eh)
    (st : ∀ n es eh, J n es eh → ∀ qt : Bool → Eh → Prop, (∀ b eh1, (b = true → ∀ d' : Dn, d'.rt = d.rt → (∀ m es1 eh1, m < n → J m es1 eh1 → d'.nx es1 eh1) → (∀ m es1 eh1, m < n → J m es1 eh1 → d'.ct es1 eh1) → (∀ es1 eh1, d.nx es1 eh1 → d'.bk es1 eh1) → t xc d' es eh1) → (b = false → d.nx es eh1) → qt b eh1) → c xc es eh qt) :
    sWhile c t xc d es eh := ⟨n + 1, whileN_inv J st _ n (Nat.lt_succ_self n) j⟩
end
/-! ### equality of data -/
/-- data without truth values, at most so deep -/
def okD : Nat → EV → Bool
  | _, .non => true
  | _, .int _ => true
  | _, .str _ => true
  | n + 1, .tup xs => xs.all (okD n)
  | n + 1, .lst xs => xs.all (okD n)
  | _, _ => false
/-- with truth values -/
def okB : Nat → EV → Bool
  | _, .non => true
  | _, .bl _ => true
  | _, .int _ => true
  | _, .str _ => true
  | n + 1, .tup xs => xs.all (okB n)
  | n + 1, .lst xs => xs.all (okB n)
  | _, _ => false
theorem okB_of : ∀ {n : Nat} {x : EV}, okD n x = true → okB n x = true
  | n, .non, _ => by cases n <;> rfl
  | n, .int _, _ => by cases n <;> rfl
  | n, .str _, _ => by cases n <;> rfl
  | n + 1, .tup xs, h => List.all_eq_true.mpr fun y hy => okB_of (List.all_eq_true.mp (show xs.all (okD n) = true from h) y hy)
  | n + 1, .lst xs, h => List.all_eq_true.mpr fun y hy => okB_of (List.all_eq_true.mp (show xs.all (okD n) = true from h) y hy)
  | 0, .tup _, h => by cases h
  | 0, .lst _, h => by cases h
  | n, .bl _, h => by cases n <;> cases h
  | n, .ty _, h => by cases n <;> cases h
  | n, .ref _, h => by cases n <;> cases h
  | n, .glo _, h => by cases n <;> cases h
  | n, .scr _, h => by cases n <;> cases h
  | n, .dct _, h => by cases n <;> cases h
  | n, .obj _ _, h => by cases n <;> cases h
  | n, .exc _ _, h => by cases n <;> cases h
  | n, .exa _ _ _, h => by cases n <;> cases h
  | n, .dn _, h => by cases n <;> cases h
structure DOk (n : Nat) (x : EV) : Prop where
  d : isD x = true
  p : (D x).plain = true
  z : (D x).depth ≤ n
theorem DOk.all {n : Nat} : ∀ {xs : List EV}, (∀ x ∈ xs, DOk n x) → isDL xs = true ∧ PyData.plainAll (DL xs) = true ∧ PyData.depthAll (DL xs) ≤ n
  | [], _ => ⟨rfl, rfl, Nat.zero_le _⟩
  | x :: xs, h => by
    have a := h x (by simp)
    obtain ⟨b1, b2, b3⟩ := DOk.all (xs := xs) fun y hy => h y (by simp [hy])
    refine ⟨by simp [isDL, a.d, b1], by simp [DL, PyData.plainAll, a.p, b2], ?_⟩
    simp only [DL, PyData.depthAll]
    exact Nat.max_le.mpr ⟨a.z, b3⟩
theorem DOk.of : ∀ {n : Nat} {x : EV}, okB n x = true → DOk n x
  | n, .non, _ => ⟨rfl, rfl, Nat.zero_le _⟩
  | n, .bl _, _ => ⟨rfl, rfl, Nat.zero_le _⟩
  | n, .int _, _ => ⟨rfl, rfl, Nat.zero_le _⟩
  | n, .str _, _ => ⟨rfl, rfl, Nat.zero_le _⟩
  | n + 1, .tup xs, h => by
    obtain ⟨a, b, c⟩ := DOk.all (n := n) (xs := xs) fun y hy => DOk.of (List.all_eq_true.mp (show xs.all (okB n) = true from h) y hy)
    exact ⟨a, b, Nat.succ_le_succ c⟩
  | n + 1, .lst xs, h => by
    obtain ⟨a, b, c⟩ := DOk.all (n := n) (xs := xs) fun y hy => DOk.of (List.all_eq_true.mp (show xs.all (okB n) = true from h) y hy)
    exact ⟨a, b, Nat.succ_le_succ c⟩
  | 0, .tup _, h => by cases h
  | 0, .lst _, h => by cases h
  | n, .ty _, h => by cases n <;> cases h
  | n, .ref _, h => by cases n <;> cases h
  | n, .glo _, h => by cases n <;> cases h
  | n, .scr _, h => by cases n <;> cases h
  | n, .dct _, h => by cases n <;> cases h
  | n, .obj _ _, h => by cases n <;> cases h
  | n, .exc _ _, h => by cases n <;> cases h
  | n, .exa _ _ _, h => by cases n <;> cases h
  | n, .dn _, h => by cases n <;> cases h
theorem eqvAll_iff {n : Nat} (ih : ∀ x y, okD n x = true → okD n y = true → (PyData.eqv (D x) (D y) = true ↔ x = y)) : ∀ {xs ys : List EV}, xs.all (okD n) = true → ys.all (okD n) = true → (PyData.eqvAll (DL xs) (DL ys) = true ↔ xs = ys)
  | [], [], _, _ => by simp [DL, PyData.eqvAll]
  | [], _ :: _, _, _ => by simp [DL, PyData.eqvAll]
  | _ :: _, [], _, _ => by simp [DL, PyData.eqvAll]
  | x :: xs, y :: ys, h, h' => by
    simp only [List.all_cons, Bool.and_eq_true] at h h'
    simp only [DL, PyData.eqvAll, Bool.and_eq_true, ih x y h.1 h'.1, eqvAll_iff ih h.2 h'.2, List.cons.injEq]
theorem eqv_iff : ∀ {n : Nat} {x y : EV}, okD n x = true → okD n y = true → (PyData.eqv (D x) (D y) = true ↔ x = y) := by
  intro n
  induction n with
  | zero =>
    intro x y hx hy
    cases x <;> first | (cases hx; done) | skip
    all_goals (cases y <;> first | (cases hy; done) | simp [D, PyData.eqv])
  | succ n ih =>
    intro x y hx hy
    have key := fun xs ys => eqvAll_iff (n := n) (fun x y => ih (x := x) (y := y)) (xs := xs) (ys := ys)
    cases x <;> first | (cases hx; done) | skip
    all_goals (cases y <;> first | (cases hy; done) | skip)
    all_goals first | (simp [D, PyData.eqv]; done) | skip
    · rename_i xs ys; simp only [D, PyData.eqv, EV.tup.injEq]; exact key xs ys hx hy
    · rename_i xs ys; simp only [D, PyData.eqv, EV.lst.injEq]; exact key xs ys hx hy
/-- a value as frozen data: an explicit list of frozen data is read -/
def froE (eh : Eh) : EV → EV
  | .ref a => match eh a with | some (.lst xs) => .lst xs | _ => .ref a
  | .scr ns => .lst (ns.map .int)
  | x => x
theorem dat_fro {eh : Eh} {n : Nat} {x : EV} (h : okB n (froE eh x) = true) : Dat eh x (D (froE eh x)) ∧ (D (froE eh x)).plain = true ∧ (D (froE eh x)).depth ≤ n := by
  have k := DOk.of h
  refine ⟨?_, k.p, k.z⟩
  have z := Dat.of eh k.d
  cases x with
  | ref a =>
    cases e : eh a with
    | none => have f : froE eh (.ref a) = .ref a := by simp [froE, e]
              rw [f] at k; exact absurd k.d (by simp [isD])
    | some o =>
      cases o with
      | lst xs => have f : froE eh (.ref a) = .lst xs := by simp [froE, e]
                  rw [f] at z ⊢; cases z with | lst hl hd => exact .ref e hl hd
      | dct xs => have f : froE eh (.ref a) = .ref a := by simp [froE, e]
                  rw [f] at k; exact absurd k.d (by simp [isD])
      | ins C fs => have f : froE eh (.ref a) = .ref a := by simp [froE, e]
                    rw [f] at k; exact absurd k.d (by simp [isD])
      | dN xs => have f : froE eh (.ref a) = .ref a := by simp [froE, e]
                 rw [f] at k; exact absurd k.d (by simp [isD])
  | scr ns =>
    have e : D (froE eh (.scr ns)) = .list (ns.map .int) := by
      show PyData.list (DL (ns.map .int)) = _
      rw [DL_map, List.map_map]; rfl
    rw [e]; exact .scr ns
  | _ => exact z
section
variable {eh : Eh} {q : KE} {x y x' y' : EV} {neg : Bool} {n m : Nat}
theorem beq_dec {α : Type} [BEq α] [LawfulBEq α] [DecidableEq α] (a b : α) : (a == b) = decide (a = b) := by
  by_cases h : a = b <;> simp [h]
theorem ceq_of {d e : PyData} (hd : Dat eh x d) (he : Dat eh y e) (pd : d.plain = true) (pe : e.plain = true) (z : min d.depth e.depth ≤ 60) (k : q (.bl (neg ^^ PyData.eqv d e)) eh) : cEq neg x y eh q := by
  unfold cEq
  split
  · cases hd; cases he; simpa [PyData.eqv, beq_dec] using k
  · cases hd; cases he; simpa [PyData.eqv, beq_dec] using k
  · cases hd; cases he; simpa [PyData.eqv, beq_dec] using k
  · cases hd; cases he; simpa [PyData.eqv, beq_dec] using k
  · exact ⟨d, e, hd, he, pd, pe, z, k⟩
/-- x == y of data -/
theorem eq_i (b : Bool) (ex : froE eh x = x') (ey : froE eh y = y') (hx : okD n x' = true) (hy : okD m y' = true) (hn : n ≤ 60) (hm : m ≤ n) (hb : b = true ↔ x' = y') (k : q (.bl (neg ^^ b)) eh) : cEq neg x y eh q := by
  subst ex; subst ey
  obtain ⟨d1, p1, z1⟩ := dat_fro (okB_of hx)
  obtain ⟨d2, p2, z2⟩ := dat_fro (okB_of hy)
  refine ceq_of d1 d2 p1 p2 (by omega) ?_
  have up : ∀ {m n : Nat} {x : EV}, m ≤ n → okD m x = true → okD n x = true := by
    intro m
    induction m with
    | zero => intro n x _ h; cases x <;> first | (cases h; done) | (cases n <;> rfl)
    | succ m ih =>
      intro n x l h
      obtain ⟨n, rfl⟩ : ∃ n', n = n' + 1 := ⟨n - 1, by omega⟩
      cases x <;> first | (cases h; done) | rfl | exact List.all_eq_true.mpr fun y hy => ih (by omega) (List.all_eq_true.mp h y hy)
  have e := (eqv_iff hx (up hm hy)).trans hb.symm
  have : PyData.eqv (D (froE eh x)) (D (froE eh y)) = b := by cases b <;> simp_all
  rw [this]; exact k
end
/-! ### frozen data -/
theorem fz_okB {S : Addr → Bool} {eh : Eh} : ∀ {n k : Nat} {x : EV}, okB n x = true → fz S eh k x = x
  | _, 0, _, _ => rfl
  | n + 1, k + 1, .tup xs, h => by
    show EV.tup (xs.map (fz S eh k)) = _
    congr 1
    exact (List.map_congr_left fun y hy => fz_okB (n := n) (List.all_eq_true.mp (show xs.all (okB n) = true from h) y hy)).trans (List.map_id _)
  | n + 1, k + 1, .lst xs, h => by
    show EV.lst (xs.map (fz S eh k)) = _
    congr 1
    exact (List.map_congr_left fun y hy => fz_okB (n := n) (List.all_eq_true.mp (show xs.all (okB n) = true from h) y hy)).trans (List.map_id _)
  | 0, _ + 1, .tup _, h => by cases h
  | 0, _ + 1, .lst _, h => by cases h
  | _, _ + 1, .non, _ => rfl
  | _, _ + 1, .bl _, _ => rfl
  | _, _ + 1, .int _, _ => rfl
  | _, _ + 1, .str _, _ => rfl
  | n, _ + 1, .ty _, h => by cases n <;> cases h
  | n, _ + 1, .ref _, h => by cases n <;> cases h
  | n, _ + 1, .glo _, h => by cases n <;> cases h
  | n, _ + 1, .scr _, h => by cases n <;> cases h
  | n, _ + 1, .dct _, h => by cases n <;> cases h
  | n, _ + 1, .obj _ _, h => by cases n <;> cases h
  | n, _ + 1, .exc _ _, h => by cases n <;> cases h
  | n, _ + 1, .exa _ _ _, h => by cases n <;> cases h
/-- what stood stands -/
def Kp (eh eh' : Eh) : Prop := ∀ c, eh c ≠ none → eh' c = eh c
theorem Kp.refl {eh : Eh} : Kp eh eh := fun _ _ => rfl
theorem Kp.trans {eh eh1 eh2 : Eh} (a : Kp eh eh1) (b : Kp eh1 eh2) : Kp eh eh2 := fun c h => (b c (by rw [a c h]; exact h)).trans (a c h)
theorem Kp.new {eh : Eh} {p : Addr} {o : Option EO} (h : eh p = none) : Kp eh (eupd eh p o) := fun c hc => eupd_ne fun z => hc (z ▸ h)
theorem Kp.set {eh eh1 : Eh} {p : Addr} {o : Option EO} (k : Kp eh eh1) (h : eh p = none) : Kp eh (eupd eh1 p o) := fun c hc => (eupd_ne fun z => hc (by rw [z]; exact h)).trans (k c hc)
theorem Kp.dr {eh eh1 : Eh} (k : Kp eh eh1) : drE (nw eh) eh1 = eh := by
  funext c
  unfold drE nw
  cases e : eh c with
  | none => simp
  | some o => simp [k c (by rw [e]; simp), e]
section
variable {xc : XC} {eh eh' : Eh} {q : KE} {x y : EV} {F : FN} {xs : List EV} {S : Addr → Bool} {n : Nat} {L us vs : List EV}
theorem fin_data {eh1 : Eh} (k : Kp eh eh1) (b : okB n x = true) (h : q x eh) : q (fz (nw eh) eh1 9 x) (drE (nw eh) eh1) := by rw [fz_okB b, k.dr]; exact h
/-- an explicit new list of data, handed out -/
theorem fin_list {eh1 : Eh} {p : Addr} (k : Kp eh eh1) (hp : eh p = none) (e : eh1 p = some (.lst L)) (b : okB n (.lst L) = true) (h : q (.lst L) eh) : q (fz (nw eh) eh1 9 (.ref p)) (drE (nw eh) eh1) := by
  have e1 : fz (nw eh) eh1 9 (.ref p) = .lst (L.map (fz (nw eh) eh1 8)) := by
    simp only [fz, nw, hp, e, Option.isNone_none, if_true]
  have e2 : L.map (fz (nw eh) eh1 8) = L := by
    cases n with
    | zero => cases b
    | succ n => exact (List.map_congr_left fun y hy => fz_okB (n := n) (List.all_eq_true.mp (show L.all (okB n) = true from b) y hy)).trans (List.map_id _)
  rw [e1, e2, k.dr]; exact h
theorem okB_map {α : Type} {c : α → EV} {l : List α} (h : ∀ a ∈ l, okB n (c a) = true) : okB (n + 1) (.lst (l.map c)) = true := List.all_eq_true.mpr fun y hy => by obtain ⟨a, ha, rfl⟩ := List.mem_map.mp hy; exact h a ha
theorem okD_map {α : Type} {c : α → EV} {l : List α} (h : ∀ a ∈ l, okD n (c a) = true) : okD (n + 1) (.lst (l.map c)) = true := List.all_eq_true.mpr fun y hy => by obtain ⟨a, ha, rfl⟩ := List.mem_map.mp hy; exact h a ha
theorem okD_tup {α : Type} {c : α → EV} {l : List α} (h : ∀ a ∈ l, okD n (c a) = true) : okD (n + 1) (.tup (l.map c)) = true := List.all_eq_true.mpr fun y hy => by obtain ⟨a, ha, rfl⟩ := List.mem_map.mp hy; exact h a ha
theorem okD_ints (l : List Int) : okD (n + 1) (.tup (l.map .int)) = true := okD_tup fun _ _ => by cases n <;> rfl
/-! ### sources -/
theorem fro_seq (h : froE eh x = .lst L) : seqE eh x = some L := by
  cases x with
  | lst => cases h; rfl
  | scr ns => cases h; rfl
  | ref a =>
    cases e : eh a with
    | none => simp [froE, e] at h
    | some o => cases o with
      | lst ys => simp [froE, e] at h; subst h; simp only [seqE, e]
      | dct _ => simp [froE, e] at h
      | ins _ _ => simp [froE, e] at h
      | dN _ => simp [froE, e] at h
  | _ => cases h
theorem fro_src (h : froE eh x = .lst L) : ∃ ok, srcL eh x = some (L, ok) ∧ ok eh ∧ ∀ eh', Kp eh eh' → ok eh' := by
  cases x with
  | lst => cases h; exact ⟨_, rfl, trivial, fun _ _ => trivial⟩
  | scr ns => cases h; exact ⟨_, rfl, trivial, fun _ _ => trivial⟩
  | ref a =>
    cases e : eh a with
    | none => simp [froE, e] at h
    | some o => cases o with
      | lst ys => simp [froE, e] at h; subst h; exact ⟨_, by simp only [srcL, e], e, fun eh' k => (k a (by rw [e]; simp)).trans e⟩
      | dct _ => simp [froE, e] at h
      | ins _ _ => simp [froE, e] at h
      | dN _ => simp [froE, e] at h
  | _ => cases h
theorem fro_walk (h : froE eh x = .lst L) : ∃ ok, walkE eh x = some (L, ok) ∧ ok eh ∧ ∀ eh', Kp eh eh' → ok eh' := by
  cases x with
  | lst => cases h; exact ⟨_, rfl, trivial, fun _ _ => trivial⟩
  | scr ns => cases h; exact ⟨_, rfl, trivial, fun _ _ => trivial⟩
  | ref a =>
    cases e : eh a with
    | none => simp [froE, e] at h
    | some o => cases o with
      | lst ys => simp [froE, e] at h; subst h; exact ⟨_, by simp only [walkE, e], e, fun eh' k => (k a (by rw [e]; simp)).trans e⟩
      | dct _ => simp [froE, e] at h
      | ins _ _ => simp [froE, e] at h
      | dN _ => simp [froE, e] at h
  | _ => cases h
theorem fro_ref {a : Addr} (h : eh a = some (.lst L)) : froE eh (.ref a) = .lst L := by simp [froE, h]
theorem walk_i {qi : List EV → (Eh → Prop) → Eh → Prop} (h : froE eh x = .lst L) (k : ∀ ok : Eh → Prop, ok eh → (∀ eh', Kp eh eh' → ok eh') → qi L ok eh) : ∃ xs ok, walkE eh x = some (xs, ok) ∧ qi xs ok eh := by
  obtain ⟨ok, e, o, ko⟩ := fro_walk h
  exact ⟨L, ok, e, k ok o ko⟩
theorem walkT_i {qi : List EV → (Eh → Prop) → Eh → Prop} (k : qi L (fun _ => True) eh) : ∃ xs ok, walkE eh (.tup L) = some (xs, ok) ∧ qi xs ok eh := ⟨_, _, rfl, k⟩
theorem walkS_i {qi : List EV → (Eh → Prop) → Eh → Prop} (k : qi L (fun _ => True) eh) : ∃ xs ok, walkE eh (.lst L) = some (xs, ok) ∧ qi xs ok eh := ⟨_, _, rfl, k⟩
theorem intx_i {j : Int} {P : Int → Prop} (h : P j) : ∃ i, EV.int j = .int i ∧ P i := ⟨j, rfl, h⟩
theorem asgx_i {g : Tg} {es es' : Es} {P : Es → Prop} (e : asg g x es = some es') (h : P es') : ∃ es', asg g x es = some es' ∧ P es' := ⟨es', e, h⟩
theorem lenL_i (h : froE eh x = .lst L) (k : q (.int L.length) eh) : bLen [x] eh q := len_i (fro_seq h) k
theorem lenT_i (k : q (.int L.length) eh) : bLen [.tup L] eh q := len_i rfl k
theorem lenF_i (k : q (.int L.length) eh) : bLen [.lst L] eh q := len_i rfl k
theorem tru_bl {b : Bool} {P : Bool → Prop} (k : P b) : ∃ k', truE eh (.bl b) = some k' ∧ P k' := ⟨b, rfl, k⟩
theorem slL_i {lo hi : Option Int} (h : froE eh x = .lst L) (k : q (.lst (cutE L lo hi)) eh) : oSlice x lo hi eh q := by
  have e := fro_seq h
  cases x with
  | str _ => cases h
  | tup _ => cases h
  | _ => exact ⟨L, e, k⟩
theorem slT_i {lo hi : Option Int} (k : q (.tup (cutE L lo hi)) eh) : oSlice (.tup L) lo hi eh q := ⟨Classical.em _, k⟩
theorem tupleL_i (k : q (.tup L) eh) : bTuple [.lst L] eh q := tuple_i rfl k
theorem cut_to {k : Nat} : cutE L none (some (k : Int)) = L.take k := by
  unfold cutE
  rw [HT.sIx_none, HT.sIx_nat]
  simp only [List.drop_zero, Nat.sub_zero]
  by_cases h : k ≤ L.length
  · rw [Nat.min_eq_left h]
  · rw [Nat.min_eq_right (by omega), List.take_length, List.take_of_length_le (show L.length ≤ k by omega)]
/-! ### membership -/
theorem any_eqv (hx : okD n x = true) : ∀ {L : List EV}, (∀ y ∈ L, okD n y = true) → ((DL L).any fun e => PyData.eqv e (D x)) = true → x ∈ L
  | [], _, h => by cases h
  | y :: L, ho, h => by
    simp only [DL, List.any_cons, Bool.or_eq_true] at h
    rcases h with h | h
    · exact List.mem_cons.mpr (.inl ((eqv_iff (ho y (by simp)) hx).mp h).symm)
    · exact List.mem_cons.mpr (.inr (any_eqv hx (fun z hz => ho z (by simp [hz])) h))
theorem eqv_any (hx : okD n x = true) : ∀ {L : List EV}, (∀ y ∈ L, okD n y = true) → x ∈ L → ((DL L).any fun e => PyData.eqv e (D x)) = true
  | y :: L, ho, h => by
    simp only [DL, List.any_cons, Bool.or_eq_true]
    rcases List.mem_cons.mp h with h | h
    · subst h; exact .inl ((eqv_iff hx hx).mpr rfl)
    · exact .inr (eqv_any hx (fun z hz => ho z (by simp [hz])) h)
/-- x in y, a list or a tuple of data -/
theorem in_i {neg : Bool} (b : Bool) (hs : seqE eh y = some L) (hx : okD n x = true) (hL : ∀ z ∈ L, okD n z = true) (hn : n ≤ 60) (hb : b = true ↔ x ∈ L) (k : q (.bl (neg ^^ b)) eh) : cIn neg x y eh q := by
  have main : (∃ ys ds d, seqE eh y = some ys ∧ ys.length = ds.length ∧ (∀ (i : Nat) z e, ys[i]? = some z → ds[i]? = some e → Dat eh z e) ∧ Dat eh x d ∧ PyData.plainAll ds = true ∧ d.plain = true ∧ d.depth ≤ 60 ∧
      q (.bl (neg ^^ ds.any fun e => PyData.eqv e d)) eh) := by
    have dx := DOk.of (okB_of hx)
    have dl := DOk.all fun z hz => DOk.of (okB_of (hL z hz))
    refine ⟨L, DL L, D x, hs, by rw [DL_map]; simp, Dat.ofL eh dl.1, Dat.of eh dx.d, dl.2.1, dx.p, Nat.le_trans dx.z hn, ?_⟩
    have : ((DL L).any fun e => PyData.eqv e (D x)) = b := by
      cases h : (DL L).any fun e => PyData.eqv e (D x) with
      | true => exact (hb.mpr (any_eqv hx hL h)).symm
      | false =>
        cases b with
        | false => rfl
        | true => rw [eqv_any hx hL (hb.mp rfl)] at h; cases h
    rw [this]; exact k
  unfold cIn
  cases y with
  | str _ => cases hs
  | _ => exact .inl main
theorem rev_i {es : Es} {a : ME} {xc : XC} (h : a xc es eh fun x eh1 => ∃ xs, lstE eh1 x = some xs ∧ q (.lst xs.reverse) eh1) : mRev a xc es eh q := h
theorem addF_i (hz : us.length + vs.length ≤ sizeLine) (k : q (.lst (us ++ vs)) eh) : oAdd (.lst us) (.lst vs) eh q := ⟨us, vs, rfl, rfl, hz, k⟩
end
/-! ### repr of data that is not too long -/
def chS (x : Str) : Bool := x.cps.toList.all fun c => decide (c < 16 ^ 8)
def okS : Nat → EV → Bool
  | _, .non => true
  | _, .bl _ => true
  | _, .int i => decide (i.natAbs < 10 ^ 99)
  | _, .str x => chS x
  | n + 1, .tup xs => xs.all (okS n)
  | n + 1, .lst xs => xs.all (okS n)
  | _, _ => false
structure Shw (n : Nat) (x : EV) : Prop where
  b : okB n x = true
  l : (D x).leavesShort 100 = true
  s : (D x).showable = true
  d : (D x).hasDict = false
theorem Shw.all {n : Nat} : ∀ {xs : List EV}, (∀ x ∈ xs, Shw n x) → xs.all (okB n) = true ∧ PyData.leavesShortAll 100 (DL xs) = true ∧ PyData.showableAll (DL xs) = true ∧ PyData.hasDictAll (DL xs) = false
  | [], _ => ⟨rfl, rfl, rfl, rfl⟩
  | x :: xs, h => by
    have a := h x (by simp)
    obtain ⟨b1, b2, b3, b4⟩ := Shw.all (xs := xs) fun y hy => h y (by simp [hy])
    exact ⟨by simp only [List.all_cons, a.b, b1, Bool.and_self], by simp only [DL, PyData.leavesShortAll, a.l, b2, Bool.and_self], by simp only [DL, PyData.showableAll, a.s, b3, Bool.and_self], by simp only [DL, PyData.hasDictAll, a.d, b4, Bool.or_self]⟩
theorem Shw.int {n : Nat} {i : Int} (h : i.natAbs < 10 ^ 99) : Shw n (.int i) := by
  refine ⟨by cases n <;> rfl, ?_, ?_, by simp only [D, PyData.hasDict]⟩
  · have e := int_text_length_le10 (k := 99) (by decide) h
    simp only [D, PyData.leavesShort, decide_eq_true_eq]
    show (Str.ofString (toString i)).length ≤ 100
    rw [PySem.ofString_length]; exact e
  · simp only [D, PyData.showable, decide_eq_true_eq]
    by_cases z : i.natAbs = 0
    · rw [z]; decide
    · refine (Nat.log2_lt z).mpr (Nat.lt_trans h (by decide +kernel))
theorem Shw.of : ∀ {n : Nat} {x : EV}, okS n x = true → Shw n x
  | n, .non, _ => ⟨by cases n <;> rfl, rfl, rfl, rfl⟩
  | n, .bl _, _ => ⟨by cases n <;> rfl, rfl, rfl, rfl⟩
  | n, .int i, h => .int (by cases n <;> simpa [okS] using h)
  | n, .str x, h => ⟨by cases n <;> rfl, by cases n <;> exact h, rfl, rfl⟩
  | n + 1, .tup xs, h => by
    obtain ⟨a, b, c, d⟩ := Shw.all (n := n) (xs := xs) fun y hy => Shw.of (List.all_eq_true.mp (show xs.all (okS n) = true from h) y hy)
    exact ⟨a, b, c, d⟩
  | n + 1, .lst xs, h => by
    obtain ⟨a, b, c, d⟩ := Shw.all (n := n) (xs := xs) fun y hy => Shw.of (List.all_eq_true.mp (show xs.all (okS n) = true from h) y hy)
    exact ⟨a, b, c, d⟩
  | 0, .tup _, h => by cases h
  | 0, .lst _, h => by cases h
  | n, .ty _, h => by cases n <;> cases h
  | n, .ref _, h => by cases n <;> cases h
  | n, .glo _, h => by cases n <;> cases h
  | n, .scr _, h => by cases n <;> cases h
  | n, .dct _, h => by cases n <;> cases h
  | n, .obj _ _, h => by cases n <;> cases h
  | n, .exc _ _, h => by cases n <;> cases h
  | n, .exa _ _ _, h => by cases n <;> cases h
  | n, .dn _, h => by cases n <;> cases h
/-! ### places, draws -/
theorem fro_same {eh : Eh} {L : List EV} : froE eh (.lst L) = .lst L := rfl
theorem fin_rg {eh : Eh} {a : Addr} {o : EO} {x : EV} {n : Nat} {q : KE} (h : eh a ≠ none) (b : okB n x = true) (k : q x (eupd eh a (some o))) : q (fz (nw eh) (eupd eh a (some o)) 9 x) (drE (nw eh) (eupd eh a (some o))) := by
  rw [fz_okB b, drE_same h]; exact k
theorem at_cells {α : Type} {f : α → EV} {cs : List α} {j : Nat} {c : α} (h : cs[j]? = some c) : atI (cs.map f) (j : Int) = some (f c) := by
  unfold atI ixN
  have hl : j < (cs.map f).length := by rw [List.length_map]; exact (List.getElem?_eq_some_iff.mp h).1
  rw [if_pos (Int.natCast_nonneg j), Int.toNat_natCast, if_pos (Int.ofNat_lt.mpr hl)]
  simp [h]
theorem at_last {xs : List EV} {x : EV} : atI (xs ++ [x]) (-1) = some x := by
  unfold atI ixN
  rw [if_neg (by decide)]
  simp only [List.length_append, List.length_cons, List.length_nil]
  rw [if_pos (by omega)]
  simp
  have : ((-1 : Int) + ((xs.length : Int) + 1)).toNat = xs.length := by omega
  simp [this]
theorem fz_lst {S : Addr → Bool} {eh : Eh} {k : Nat} {a : Addr} {xs : List EV} (h : S a = true) (e : eh a = some (.lst xs)) : fz S eh (k + 1) (.ref a) = .lst (xs.map (fz S eh k)) := by simp only [fz, h, e, if_true]
theorem drE_new {eh : Eh} {p : Addr} {o : Option EO} (h : eh p = none) : drE (nw eh) (eupd eh p o) = eh := by
  funext c
  unfold drE nw eupd
  by_cases hc : c = p
  · subst hc; simp [h]
  · cases e : eh c <;> simp [hc]
theorem okD_str {n : Nat} {w : Str} : okD n (.str w) = true := by cases n <;> rfl
end VM

namespace LW
open PySem PySem.Spec PyProof.Rows L2 VM
def top (i : Nat) : Stmt := PySem.Challenge.pw_farreads_k30_greatest_shifts.main.body.getD i (.Pass ⟨0, 0, 0, 0⟩)
abbrev prg : PySem.Program := PySem.W.OpenLaw.prog PySem.Challenge.rw_farreads_k30_greatest_shifts
def errs : List ErrD := []
/-! ### _law_pool -/
def st__law_pool : Stmt := top 26
def d__law_pool : He.DefD := ⟨("_law_pool", none), "_law_pool", "_law_pool", defArgs st__law_pool, defBody st__law_pool, defScope st__law_pool, [], []⟩
def N__law_pool : List Str := ["_law_script", "_law_at", "_law_given"]
def ms__law_pool : MS := (sSeq (sSet 2 (mC (.int 0)))
    (sSeq (sIf (tVal (mOp oLt (mVar 1) (mCB bLen (aCons (mVar 0) aNil)))) (sSet 2 (mOp oIx (mVar 0) (mVar 1))) sNext)
    (sRet (mLstR (aCons (mCB bMax (aCons (mC (.int 0)) (aCons (mOp oSub (mCB bAbs (aCons (mVar 2) aNil)) (mOp oPow (mC (.int 10)) (mC (.int 18)))) aNil))) (aCons (mOp oAdd (mOp oMod (mVar 2) (mC (.int 2305843009213693951))) (mOp oMul (mC (.int 3367900543)) (mOp oAdd (mVar 1) (mC (.int 1))))) (aCons (mC (.int 0)) aNil)))))))
def fn__law_pool : FN := fnOf 3 ms__law_pool
/-! ### _law_draw -/
def st__law_draw : Stmt := top 27
def d__law_draw : He.DefD := ⟨("_law_draw", none), "_law_draw", "_law_draw", defArgs st__law_draw, defBody st__law_draw, defScope st__law_draw, [], []⟩
def N__law_draw : List Str := ["_law_pool_here", "_law_many", "_law_mixed", "_law_drawn_here"]
def ms__law_draw : MS := (sSeq (sIf (tVal (mOp oGt (mOp oIx (mVar 0) (mC (.int 0))) (mC (.int 0)))) (sSeq (sSet 3 (mOp oMod (mOp oIx (mVar 0) (mC (.int 0))) (mVar 1)))
    (sSeq (sLPutN (mVar 0) (mC (.int 0)) (mOp oDiv (mOp oIx (mVar 0) (mC (.int 0))) (mVar 1)))
    (sRet (mVar 3)))) sNext)
    (sSeq (sLPutN (mVar 0) (mC (.int 2)) (mOp oAdd (mOp oIx (mVar 0) (mC (.int 2))) (mC (.int 1))))
    (sSeq (sSet 2 (mOp oMod (mOp oPow (mOp oAdd (mOp oIx (mVar 0) (mC (.int 1))) (mOp oMul (mC (.int 15488653)) (mOp oIx (mVar 0) (mC (.int 2))))) (mC (.int 3))) (mC (.int 162259276829213363391578010288127))))
    (sSeq (sSet 2 (mOp oMod (mOp oPow (mOp oAdd (mVar 2) (mOp oMul (mC (.int 32454427)) (mOp oIx (mVar 0) (mC (.int 2))))) (mC (.int 5))) (mC (.int 170141183460469231731687303715884105727))))
    (sRet (mOp oMod (mOp oDiv (mVar 2) (mC (.int 1048576))) (mVar 1)))))))
def fn__law_draw : FN := fnOf 4 ms__law_draw
/-! ### _law_vector -/
def st__law_vector : Stmt := top 28
def d__law_vector : He.DefD := ⟨("_law_vector", none), "_law_vector", "_law_vector", defArgs st__law_vector, defBody st__law_vector, defScope st__law_vector, [], []⟩
def N__law_vector : List Str := ["_law_pool_here", "_law_axes", "_law_rows_here", "_law_found", "_law_axis", "_law_part"]
def ce__law_vector_1 : ME := (mOp oIx (mLst (aCons (mC (.int 0)) (aCons (mC (.int 0)) (aCons (mC (.int 1)) (aCons (mUn oNeg (mC (.int 1))) (aCons (mC (.int 1)) (aCons (mUn oNeg (mC (.int 2))) (aCons (mC (.int 2)) (aCons (mOp oSub (mFz 9 (mCall fn__law_draw 2 [] (aCons (mVar 0) (aCons (mC (.int 11)) aNil)))) (mC (.int 5))) aNil))))))))) (mFz 9 (mCall fn__law_draw 2 [] (aCons (mVar 0) (aCons (mC (.int 8)) aNil)))))
def ce__law_vector_2 : ME := (mOp oSub (mC (.int 0)) (mVar 5))
def ms__law_vector : MS := (sSeq (sSet 3 (mCompR (iRange1 (aCons (mVar 1) aNil)) (.nm 4) tYesE ce__law_vector_1 [4]))
    (sSeq (sIf (tAnd (tVal (mOp (cEq true) (mVar 2) (mLst aNil))) (tVal (mOp (cEq false) (mFz 9 (mCall fn__law_draw 2 [] (aCons (mVar 0) (aCons (mC (.int 3)) aNil)))) (mC (.int 0))))) (sSeq (sSet 3 (mCompR (iAny (mOp oIx (mOp oIx (mVar 2) (mFz 9 (mCall fn__law_draw 2 [] (aCons (mVar 0) (aCons (mCB bLen (aCons (mVar 2) aNil)) aNil))))) (mC (.int 3)))) (.nm 5) tYesE ce__law_vector_2 [5]))
    (sIf (tVal (mOp (cEq false) (mFz 9 (mCall fn__law_draw 2 [] (aCons (mVar 0) (aCons (mC (.int 2)) aNil)))) (mC (.int 0)))) (sSeq (sSet 4 (mFz 9 (mCall fn__law_draw 2 [] (aCons (mVar 0) (aCons (mVar 1) aNil)))))
    (sLPutN (mVar 3) (mVar 4) (mCB bMax (aCons (mUn oNeg (mC (.int 5))) (aCons (mCB bMin (aCons (mC (.int 5)) (aCons (mOp oAdd (mOp oIx (mVar 3) (mVar 4)) (mC (.int 1))) aNil))) aNil))))) sNext)) sNext)
    (sRet (mCB bTuple (aCons (mVar 3) aNil)))))
def fn__law_vector : FN := fnOf 6 ms__law_vector
/-! ### _law_wide -/
def st__law_wide : Stmt := top 36
def d__law_wide : He.DefD := ⟨("_law_wide", none), "_law_wide", "_law_wide", defArgs st__law_wide, defBody st__law_wide, defScope st__law_wide, [], []⟩
def N__law_wide : List Str := ["_law_pool_here", "_law_axes", "_law_most", "_law_left", "_law_titles", "_law_start", "_law_held", "_law_rows_here", "_law_many", "_law_turn", "_law_spot", "_law_place", "_law_row", "_law_sign", "_law_title", "_law_some"]
def bd__law_wide_1 : MS := (sExpr (mBM isLst oAppend (mVar 4) (aCons (mBM isLst oPop (mVar 3) (aCons (mFz 9 (mCall fn__law_draw 2 [] (aCons (mVar 0) (aCons (mCB bLen (aCons (mVar 3) aNil)) aNil)))) aNil)) aNil)))
def bd__law_wide_4 : MS := (sSeq (sPar 10 11 (aCons (mVar 9) (aCons (mOp oMod (mOp oAdd (mVar 9) (mC (.int 1))) (mCB bLen (aCons (mVar 4) aNil))) aNil)))
    (sSeq (sIf (tVal (mOp oGe (mVar 9) (mVar 8))) (sPar 10 11 (aCons (mFz 9 (mCall fn__law_draw 2 [] (aCons (mVar 0) (aCons (mCB bLen (aCons (mVar 4) aNil)) aNil)))) (aCons (mFz 9 (mCall fn__law_draw 2 [] (aCons (mVar 0) (aCons (mCB bLen (aCons (mVar 4) aNil)) aNil)))) aNil))) sNext)
    (sSeq (sSet 12 (mTup (aCons (mOp oIx (mVar 4) (mVar 10)) (aCons (mCB bLen (aCons (mOp oIx (mVar 6) (mVar 10)) aNil)) (aCons (mOp oIx (mVar 4) (mVar 11)) (aCons (mFz 9 (mCall fn__law_vector 3 [] (aCons (mVar 0) (aCons (mVar 1) (aCons (mVar 7) aNil))))) aNil))))))
    (sSeq (sExpr (mBM isLst oAppend (mOp oIx (mVar 6) (mVar 10)) (aCons (mTup (aCons (mOp oIx (mVar 12) (mC (.int 2))) (aCons (mOp oIx (mVar 12) (mC (.int 3))) (aCons (mC (.int 1)) aNil)))) aNil)))
    (sExpr (mBM isLst oAppend (mVar 7) (aCons (mVar 12) aNil)))))))
def ce__law_wide_5 : ME := (mTup (aCons (mVar 14) (aCons (mC (.int 1)) (aCons (mVar 15) aNil))))
def ms__law_wide : MS := (sSeq (sPar 3 4 (aCons (mLstR (aCons (mC (.str "a")) (aCons (mC (.str "b")) (aCons (mC (.str "c")) (aCons (mC (.str "d")) (aCons (mC (.str "e")) (aCons (mC (.str "f")) aNil))))))) (aCons (mLstR aNil) aNil)))
    (sSeq (sWhile (tAnd (tVal (mOp oLt (mCB bLen (aCons (mVar 4) aNil)) (mOp oAdd (mC (.int 5)) (mFz 9 (mCall fn__law_draw 2 [] (aCons (mVar 0) (aCons (mC (.int 2)) aNil))))))) (tVal (mOp (cEq true) (mVar 3) (mLst aNil)))) bd__law_wide_1)
    (sSeq (sSet 5 (mSl oSlice (mC (.str "readin")) mNo (mPt (mOp oMul (mFz 9 (mCall fn__law_draw 2 [] (aCons (mVar 0) (aCons (mC (.int 7)) aNil)))) (mCB bInt (aCons (mOp (cEq false) (mFz 9 (mCall fn__law_draw 2 [] (aCons (mVar 0) (aCons (mC (.int 3)) aNil)))) (mC (.int 0))) aNil))))))
    (sSeq (sSet 4 (mCompR (iAny (mVar 4)) (.nm 13) tYesE (mOp oAdd (mVar 5) (mVar 13)) [13]))
    (sSeq (sPar 6 7 (aCons (mComp (iAny (mVar 4)) (.nm 14) tYesE (mLstR aNil) [14]) (aCons (mLstR aNil) aNil)))
    (sSeq (sSet 8 (mOp oAdd (mOp oSub (mCB bLen (aCons (mVar 4) aNil)) (mC (.int 1))) (mFz 9 (mCall fn__law_draw 2 [] (aCons (mVar 0) (aCons (mC (.int 2)) aNil))))))
    (sSeq (sFor (iRange1 (aCons (mOp oAdd (mVar 8) (mFz 9 (mCall fn__law_draw 2 [] (aCons (mVar 0) (aCons (mOp oAdd (mOp oSub (mVar 2) (mVar 8)) (mC (.int 1))) aNil))))) aNil)) (.nm 9) bd__law_wide_4)
    (sRet (mComp (iZipM (aCons (mVar 4) (aCons (mVar 6) aNil))) (.tp [(.nm 14), (.nm 15)]) tYesE ce__law_wide_5 [14, 15])))))))))
def fn__law_wide : FN := fnOf 16 ms__law_wide
/-! ### _law_tables -/
def st__law_tables : Stmt := top 29
def d__law_tables : He.DefD := ⟨("_law_tables", none), "_law_tables", "_law_tables", defArgs st__law_tables, defBody st__law_tables, defScope st__law_tables, [], []⟩
def N__law_tables : List Str := ["_law_pool_here", "_law_axes", "_law_most", "_law_start", "_law_titles", "_law_held", "_law_rows_here", "_law_turn", "_law_spot", "_law_place", "_law_row", "_law_sign", "_law_title", "_law_some"]
def bd__law_tables_3 : MS := (sSeq (sSet 8 (mFz 9 (mCall fn__law_draw 2 [] (aCons (mVar 0) (aCons (mCB bLen (aCons (mVar 4) aNil)) aNil)))))
    (sSeq (sSet 9 (mOp oIx (mLst (aCons (mVar 8) (aCons (mFz 9 (mCall fn__law_draw 2 [] (aCons (mVar 0) (aCons (mCB bLen (aCons (mVar 4) aNil)) aNil)))) aNil))) (mFz 9 (mCall fn__law_draw 2 [] (aCons (mVar 0) (aCons (mC (.int 2)) aNil))))))
    (sSeq (sSet 10 (mTup (aCons (mOp oIx (mVar 4) (mVar 8)) (aCons (mCB bLen (aCons (mOp oIx (mVar 5) (mVar 8)) aNil)) (aCons (mOp oIx (mVar 4) (mVar 9)) (aCons (mFz 9 (mCall fn__law_vector 3 [] (aCons (mVar 0) (aCons (mVar 1) (aCons (mVar 6) aNil))))) aNil))))))
    (sSeq (sExpr (mBM isLst oAppend (mOp oIx (mVar 5) (mVar 8)) (aCons (mTup (aCons (mOp oIx (mVar 10) (mC (.int 2))) (aCons (mOp oIx (mVar 10) (mC (.int 3))) (aCons (mOp oIx (mLst (aCons (mC (.int 1)) (aCons (mC (.int 2)) (aCons (mUn oNeg (mC (.int 1))) (aCons (mUn oNeg (mC (.int 9))) aNil))))) (mFz 9 (mCall fn__law_draw 2 [] (aCons (mVar 0) (aCons (mC (.int 4)) aNil))))) aNil)))) aNil)))
    (sExpr (mBM isLst oAppend (mVar 6) (aCons (mVar 10) aNil)))))))
def ce__law_tables_4 : ME := (mTup (aCons (mVar 12) (aCons (mOp oSub (mFz 9 (mCall fn__law_draw 2 [] (aCons (mVar 0) (aCons (mC (.int 9)) aNil)))) (mC (.int 4))) (aCons (mVar 13) aNil))))
def ms__law_tables : MS := (sSeq (sSet 3 (mSl oSlice (mC (.str "readin")) mNo (mPt (mOp oMul (mFz 9 (mCall fn__law_draw 2 [] (aCons (mVar 0) (aCons (mC (.int 7)) aNil)))) (mCB bInt (aCons (mOp (cEq false) (mFz 9 (mCall fn__law_draw 2 [] (aCons (mVar 0) (aCons (mC (.int 3)) aNil)))) (mC (.int 0))) aNil))))))
    (sSeq (sSet 4 (mComp (iAny (mSl oSlice (mLst (aCons (mC (.str "b")) (aCons (mC (.str "a")) (aCons (mC (.str "ab")) (aCons (mC (.str "m")) aNil))))) mNo (mPt (mOp oAdd (mC (.int 1)) (mFz 9 (mCall fn__law_draw 2 [] (aCons (mVar 0) (aCons (mC (.int 4)) aNil)))))))) (.nm 11) tYesE (mOp oAdd (mVar 3) (mVar 11)) [11]))
    (sSeq (sPar 5 6 (aCons (mComp (iAny (mVar 4)) (.nm 12) tYesE (mLstR aNil) [12]) (aCons (mLstR aNil) aNil)))
    (sSeq (sFor (iRange1 (aCons (mFz 9 (mCall fn__law_draw 2 [] (aCons (mVar 0) (aCons (mOp oAdd (mVar 2) (mC (.int 1))) aNil)))) aNil)) (.nm 7) bd__law_tables_3)
    (sRet (mComp (iZipM (aCons (mVar 4) (aCons (mVar 5) aNil))) (.tp [(.nm 12), (.nm 13)]) tYesE ce__law_tables_4 [12, 13]))))))
def fn__law_tables : FN := fnOf 14 ms__law_tables
/-! ### _law_drawn -/
def st__law_drawn : Stmt := top 37
def d__law_drawn : He.DefD := ⟨("_law_drawn", none), "_law_drawn", "_law_drawn", defArgs st__law_drawn, defBody st__law_drawn, defScope st__law_drawn, [], []⟩
def N__law_drawn : List Str := ["_law_pool_here", "_law_axes", "_law_tables_here", "_law_some", "_law_title", "_law_part", "_law_reads_here", "_law_row", "_law_one"]
def ce__law_drawn_1 : ME := (mCB bAbs (aCons (mVar 8) aNil))
def ce__law_drawn_2 : ME := (mTup (aCons (mOp oIx (mVar 7) (mC (.int 0))) (aCons (mCB bTuple (aCons (mComp (iAny (mOp oIx (mVar 7) (mC (.int 1)))) (.nm 8) tYesE ce__law_drawn_1 [8]) aNil)) (aCons (mOp oIx (mVar 7) (mC (.int 2))) aNil))))
def bd__law_drawn_3 : MS := (sExpr (mBM isLst oAppend (mVar 3) (aCons (mTup (aCons (mVar 4) (aCons (mVar 5) (aCons (mComp (iAny (mVar 6)) (.nm 7) tYesE ce__law_drawn_2 [7]) aNil)))) aNil)))
def ms__law_drawn : MS := (sSeq (sSet 2 (mOp oIx (mLst (aCons (mFz 9 (mCall fn__law_tables 3 [] (aCons (mVar 0) (aCons (mVar 1) (aCons (mC (.int 7)) aNil))))) (aCons (mFz 9 (mCall fn__law_wide 3 [] (aCons (mVar 0) (aCons (mVar 1) (aCons (mC (.int 12)) aNil))))) aNil))) (mFz 9 (mCall fn__law_draw 2 [] (aCons (mVar 0) (aCons (mC (.int 2)) aNil))))))
    (sSeq (sIf (tVal (mOp (cEq false) (mFz 9 (mCall fn__law_draw 2 [] (aCons (mVar 0) (aCons (mC (.int 3)) aNil)))) (mC (.int 0)))) (sRet (mVar 2)) sNext)
    (sSeq (sSet 3 (mLstR aNil))
    (sSeq (sFor (iAny (mVar 2)) (.tp [(.nm 4), (.nm 5), (.nm 6)]) bd__law_drawn_3)
    (sRet (mVar 3))))))
def fn__law_drawn : FN := fnOf 9 ms__law_drawn
/-! ### is_name -/
def st_is_name : Stmt := top 13
def d_is_name : He.DefD := ⟨("is_name", none), "is_name", "is_name", defArgs st_is_name, defBody st_is_name, defScope st_is_name, [], []⟩
def N_is_name : List Str := ["word", "sign"]
def ce_is_name_1 : ME := (mOp (cIn false) (mVar 1) (mC (.str "abcdefghijklmnopqrstuvwxyz")))
def ms_is_name : MS := (sRet (mAnd (mChain oLe oLe (mC (.int 1)) (mCB bLen (aCons (mVar 0) aNil)) (mC (.int 8))) (mCB bAll (aCons (mComp (iAny (mVar 0)) (.nm 1) tYesE ce_is_name_1 [1]) aNil))))
def fn_is_name : FN := fnOf 2 ms_is_name
/-! ### is_read -/
def st_is_read : Stmt := top 14
def d_is_read : He.DefD := ⟨("is_read", none), "is_read", "is_read", defArgs st_is_read, defBody st_is_read, defScope st_is_read, [], []⟩
def N_is_read : List Str := ["read", "dimensions", "table", "vector", "factor"]
def ms_is_read : MS := (sSeq (sAsg (.tp [(.nm 2), (.nm 3), (.nm 4)]) (mVar 0))
    (sRet (mAnd (mFz 9 (mCall fn_is_name 1 [] (aCons (mVar 2) aNil))) (mAnd (mOp (cEq false) (mCB bLen (aCons (mVar 3) aNil)) (mVar 1)) (mOp (cEq true) (mVar 4) (mC (.int 0)))))))
def fn_is_read : FN := fnOf 5 ms_is_read
/-! ### check_system -/
def st_check_system : Stmt := top 15
def d_check_system : He.DefD := ⟨("check_system", none), "check_system", "check_system", defArgs st_check_system, defBody st_check_system, defScope st_check_system, [], []⟩
def N_check_system : List Str := ["dimensions", "tables", "modulus", "found", "many", "row", "name", "constant", "reads", "is_odd", "table", "vector", "factor", "read"]
def ce_check_system_1 : ME := (mFz 9 (mCall fn_is_read 2 [] (aCons (mVar 13) (aCons (mVar 0) aNil))))
def bd_check_system_2 : MS := (sSeq (sSet 4 (mOp oAdd (mVar 4) (mCB bLen (aCons (mVar 8) aNil))))
    (sSeq (sSet 9 (mOr (mNot (mFz 9 (mCall fn_is_name 1 [] (aCons (mVar 6) aNil)))) (mOr (mOp (cIn false) (mVar 6) (mVar 3)) (mOp oGt (mVar 4) (mC (.int 12))))))
    (sSeq (sIf (tOr (tTru (mVar 9)) (tNot (tTru (mCB bAll (aCons (mComp (iAny (mVar 8)) (.nm 13) tYesE ce_check_system_1 [13]) aNil))))) sNever sNext)
    (sDPutE (mVar 3) (mVar 6) (mC (.bl true))))))
def ce_check_system_3 : ME := (mOp (cIn false) (mVar 10) (mVar 3))
def bd_check_system_4 : MS := (sIf (tNot (tTru (mCB bAll (aCons (mComp (iAny (mVar 8)) (.tp [(.nm 10), (.nm 11), (.nm 12)]) tYesE ce_check_system_3 [10, 11, 12]) aNil)))) sNever sNext)
def ms_check_system : MS := (sSeq (sIf (tNot (tVal (mChain oLe oLe (mC (.int 1)) (mVar 0) (mC (.int 3))))) sNever sNext)
    (sSeq (sIf (tNot (tVal (mChain oLe oLe (mC (.int 1)) (mCB bLen (aCons (mVar 1) aNil)) (mC (.int 6))))) sNever sNext)
    (sSeq (sAsg (.tp [(.nm 3), (.nm 4)]) (mTup (aCons mDNew (aCons (mC (.int 0)) aNil))))
    (sSeq (sFor (iEnumM (aCons (mVar 1) aNil)) (.tp [(.nm 5), (.tp [(.nm 6), (.nm 7), (.nm 8)])]) bd_check_system_2)
    (sSeq (sFor (iEnumM (aCons (mVar 1) aNil)) (.tp [(.nm 5), (.tp [(.nm 6), (.nm 7), (.nm 8)])]) bd_check_system_4)
    (sIf (tVal (mOp oLt (mVar 2) (mC (.int 2)))) sNever sNext))))))
def fn_check_system : FN := fnOf 14 ms_check_system
/-! ### System.__init__ -/
def st_System_init : Stmt := (clB (top 17)).getD 0 (.Pass ⟨0, 0, 0, 0⟩)
def d_System_init : He.DefD := ⟨("System", some "__init__"), "__init__", "System.__init__", defArgs st_System_init, defBody st_System_init, defScope st_System_init, [(.int 1000003)], []⟩
def N_System_init : List Str := ["self", "dimensions", "tables", "modulus", "name", "constant", "reads", "number"]
def bd_System_init_1 : MS := (sDPutE (mFld "System" "kept_tables" (mVar 0)) (mVar 4) (mTup (aCons (mVar 5) (aCons (mCB bTuple (aCons (mVar 6) aNil)) aNil))))
def ce_System_init_2 : ME := (mTup (aCons (mVar 4) (aCons (mVar 7) aNil)))
def ms_System_init : MS := (sSeq (sExpr (mFz 9 (mCall fn_check_system 3 [] (aCons (mVar 1) (aCons (mVar 2) (aCons (mVar 3) aNil))))))
    (sSeq (sFldE "System" "dimension_count" (mVar 0) (mVar 1))
    (sSeq (sFldE "System" "kept_modulus" (mVar 0) (mVar 3))
    (sSeq (sFldE "System" "kept_tables" (mVar 0) mDNew)
    (sSeq (sFor (iAny (mSortK0 (mVar 2))) (.tp [(.nm 4), (.nm 5), (.nm 6)]) bd_System_init_1)
    (sFzF 0 "System" "kept_tables" 9 (sFldE "System" "named_reads" (mVar 0) (mCB bTuple (aCons (mComp2 (iItemsM (mFld "System" "kept_tables" (mVar 0))) (.tp [(.nm 4), (.tp [(.nm 5), (.nm 6)])]) tYesE (iRange1 (aCons (mCB bLen (aCons (mVar 6) aNil)) aNil)) (.nm 7) tYesE ce_System_init_2 [4, 5, 6, 7] [7]) aNil)))))))))
def fn_System_init : FN := fnOf 8 ms_System_init
/-! ### _law_made -/
def st__law_made : Stmt := top 31
def d__law_made : He.DefD := ⟨("_law_made", none), "_law_made", "_law_made", defArgs st__law_made, defBody st__law_made, defScope st__law_made, [], []⟩
def N__law_made : List Str := ["_law_axes", "_law_tables_here"]
def ms__law_made : MS := (sRet (mFz 9 (mMake "System" fn_System_init 4 [] (aCons (mVar 0) (aCons (mVar 1) (aCons (mC (.int 97)) aNil))))))
def fn__law_made : FN := fnOf 2 ms__law_made
/-! ### System.names -/
def st_System_names : Stmt := (clB (top 17)).getD 3 (.Pass ⟨0, 0, 0, 0⟩)
def p_System_names : GetD := ⟨"System", "names", "System.names", defArgs st_System_names, defBody st_System_names, defScope st_System_names⟩
def N_System_names : List Str := ["self"]
def ms_System_names : MS := (sRet (mCB bListD (aCons (mFld "System" "kept_tables" (mVar 0)) aNil)))
def fn_System_names : FN := fnOf 1 ms_System_names
/-! ### check_table -/
def st_check_table : Stmt := top 16
def d_check_table : He.DefD := ⟨("check_table", none), "check_table", "check_table", defArgs st_check_table, defBody st_check_table, defScope st_check_table, [], []⟩
def N_check_table : List Str := ["system", "name"]
def ms_check_table : MS := (sIf (tVal (mOp (cIn true) (mVar 1) (mFld "System" "kept_tables" (mVar 0)))) sNever sNext)
def fn_check_table : FN := fnOf 2 ms_check_table
/-! ### System.reads -/
def st_System_reads : Stmt := (clB (top 17)).getD 7 (.Pass ⟨0, 0, 0, 0⟩)
def d_System_reads : He.DefD := ⟨("System", some "reads"), "reads", "System.reads", defArgs st_System_reads, defBody st_System_reads, defScope st_System_reads, [], []⟩
def N_System_reads : List Str := ["self", "name"]
def ms_System_reads : MS := (sSeq (sExpr (mFz 9 (mCall fn_check_table 2 [] (aCons (mVar 0) (aCons (mVar 1) aNil)))))
    (sRet (mCB bList (aCons (mOp oIx (mOp oIx (mFld "System" "kept_tables" (mVar 0)) (mVar 1)) (mC (.int 1))) aNil))))
def fn_System_reads : FN := fnOf 2 ms_System_reads
/-! ### System.constant -/
def st_System_constant : Stmt := (clB (top 17)).getD 6 (.Pass ⟨0, 0, 0, 0⟩)
def d_System_constant : He.DefD := ⟨("System", some "constant"), "constant", "System.constant", defArgs st_System_constant, defBody st_System_constant, defScope st_System_constant, [], []⟩
def N_System_constant : List Str := ["self", "name"]
def ms_System_constant : MS := (sSeq (sExpr (mFz 9 (mCall fn_check_table 2 [] (aCons (mVar 0) (aCons (mVar 1) aNil)))))
    (sRet (mOp oIx (mOp oIx (mFld "System" "kept_tables" (mVar 0)) (mVar 1)) (mC (.int 0)))))
def fn_System_constant : FN := fnOf 2 ms_System_constant
/-! ### System.modulus -/
def st_System_modulus : Stmt := (clB (top 17)).getD 2 (.Pass ⟨0, 0, 0, 0⟩)
def p_System_modulus : GetD := ⟨"System", "modulus", "System.modulus", defArgs st_System_modulus, defBody st_System_modulus, defScope st_System_modulus⟩
def N_System_modulus : List Str := ["self"]
def ms_System_modulus : MS := (sRet (mFld "System" "kept_modulus" (mVar 0)))
def fn_System_modulus : FN := fnOf 1 ms_System_modulus
/-! ### shifted -/
def st_shifted : Stmt := top 23
def d_shifted : He.DefD := ⟨("shifted", none), "shifted", "shifted", defArgs st_shifted, defBody st_shifted, defScope st_shifted, [], []⟩
def N_shifted : List Str := ["system", "shifts", "many", "name", "tables", "reads", "target", "vector", "factor", "moved", "axis"]
def bd_shifted_1 : MS := (sIf (tOr (tVal (mOp (cIn true) (mVar 3) (mVar 1))) (tVal (mOp (cEq true) (mCB bLen (aCons (mOp oIx (mVar 1) (mVar 3)) aNil)) (mVar 2)))) sNever sNext)
def bd_shifted_2 : MS := (sIf (tVal (mOp (cIn true) (mVar 3) (mFz 9 (mProp "System" fn_System_names 1 [] (mVar 0))))) sNever sNext)
def ce_shifted_3 : ME := (mOp oAdd (mOp oSub (mOp oIx (mVar 7) (mVar 10)) (mOp oIx (mOp oIx (mVar 1) (mVar 3)) (mVar 10))) (mOp oIx (mOp oIx (mVar 1) (mVar 6)) (mVar 10)))
def bd_shifted_4 : MS := (sSeq (sSet 9 (mComp (iRange1 (aCons (mVar 2) aNil)) (.nm 10) tYesE ce_shifted_3 [10]))
    (sExpr (mBM isLst oAppend (mVar 5) (aCons (mTup (aCons (mVar 6) (aCons (mCB bTuple (aCons (mVar 9) aNil)) (aCons (mVar 8) aNil)))) aNil))))
def bd_shifted_5 : MS := (sSeq (sSet 5 (mLstR aNil))
    (sSeq (sFor (iAny (mFz 9 (mMeth "System" "reads" fn_System_reads 2 [] (mVar 0) (aCons (mVar 3) aNil)))) (.tp [(.nm 6), (.nm 7), (.nm 8)]) bd_shifted_4)
    (sFzV 5 (sExpr (mBM isLst oAppend (mVar 4) (aCons (mTup (aCons (mVar 3) (aCons (mFz 9 (mMeth "System" "constant" fn_System_constant 2 [] (mVar 0) (aCons (mVar 3) aNil))) (aCons (mVar 5) aNil)))) aNil))))))
def ms_shifted : MS := (sSeq (sSet 2 (mFld "System" "dimension_count" (mVar 0)))
    (sSeq (sFor (iAny (mFz 9 (mProp "System" fn_System_names 1 [] (mVar 0)))) (.nm 3) bd_shifted_1)
    (sSeq (sFor (iAny (mCB bSortD (aCons (mVar 1) aNil))) (.nm 3) bd_shifted_2)
    (sSeq (sSet 4 (mLstR aNil))
    (sSeq (sFor (iAny (mFz 9 (mProp "System" fn_System_names 1 [] (mVar 0)))) (.nm 3) bd_shifted_5)
    (sFzV 4 (sRet (mFz 9 (mMake "System" fn_System_init 4 [] (aCons (mVar 2) (aCons (mVar 4) (aCons (mFz 9 (mProp "System" fn_System_modulus 1 [] (mVar 0))) aNil))))))))))))
def fn_shifted : FN := fnOf 11 ms_shifted
/-! ### _law_shift -/
def st__law_shift : Stmt := top 34
def d__law_shift : He.DefD := ⟨("_law_shift", none), "_law_shift", "_law_shift", defArgs st__law_shift, defBody st__law_shift, defScope st__law_shift, [], []⟩
def N__law_shift : List Str := ["_law_pool_here", "_law_titles", "_law_axes", "_law_moved", "_law_title", "_law_axis"]
def ce__law_shift_1 : ME := (mOp oSub (mFz 9 (mCall fn__law_draw 2 [] (aCons (mVar 0) (aCons (mC (.int 13)) aNil)))) (mC (.int 6)))
def bd__law_shift_2 : MS := (sDPutE (mVar 3) (mVar 4) (mCB bTuple (aCons (mComp (iRange1 (aCons (mVar 2) aNil)) (.nm 5) tYesE ce__law_shift_1 [5]) aNil)))
def ms__law_shift : MS := (sSeq (sSet 3 mDNew)
    (sSeq (sFor (iAny (mVar 1)) (.nm 4) bd__law_shift_2)
    (sRet (mVar 3))))
def fn__law_shift : FN := fnOf 6 ms__law_shift
/-! ### _law_cycles -/
def st__law_cycles : Stmt := top 33
def d__law_cycles : He.DefD := ⟨("_law_cycles", none), "_law_cycles", "_law_cycles", defArgs st__law_cycles, defBody st__law_cycles, defScope st__law_cycles, [], []⟩
def N__law_cycles : List Str := ["_law_rows_here", "_law_found", "_law_title", "_law_waiting", "_law_some", "_law_here", "_law_row"]
def ce__law_cycles_1 : ME := (mOp oIx (mVar 6) (mC (.int 0)))
def ce__law_cycles_3 : ME := (mOp oIx (mVar 6) (mC (.int 0)))
def ce__law_cycles_4 : ME := (mOp oAdd (mVar 4) (mLst (aCons (mVar 6) aNil)))
def bd__law_cycles_5 : MS := (sSeq (sSet 4 (mBM isLst oPop (mVar 3) aNil))
    (sSeq (sSet 5 (mOp oIx (mOp oIx (mVar 4) (mUn oNeg (mC (.int 1)))) (mC (.int 2))))
    (sIf (tVal (mOp (cEq false) (mVar 5) (mVar 2))) (sExpr (mBM isLst oAppend (mVar 1) (aCons (mVar 4) aNil))) (sIf (tAnd (tVal (mOp oGtS (mVar 5) (mVar 2))) (tVal (mOp (cIn true) (mVar 5) (mComp (iAny (mVar 4)) (.nm 6) tYesE ce__law_cycles_3 [6])))) (sExpr (mBM isLst oExtend (mVar 3) (aCons (mComp (iAny (mVar 0)) (.nm 6) (tVal (mOp (cEq false) (mOp oIx (mVar 6) (mC (.int 0))) (mVar 5))) ce__law_cycles_4 [6]) aNil))) sNext))))
def bd__law_cycles_6 : MS := (sSeq (sSet 3 (mCompR (iAny (mVar 0)) (.nm 6) (tVal (mOp (cEq false) (mOp oIx (mVar 6) (mC (.int 0))) (mVar 2))) (mLst (aCons (mVar 6) aNil)) [6]))
    (sWhile (tVal (mOp (cEq true) (mVar 3) (mLst aNil))) bd__law_cycles_5))
def ms__law_cycles : MS := (sSeq (sSet 1 (mLstR aNil))
    (sSeq (sFor (iAny (mSortSet (mComp (iAny (mVar 0)) (.nm 6) tYesE ce__law_cycles_1 [6]))) (.nm 2) bd__law_cycles_6)
    (sRet (mVar 1))))
def fn__law_cycles : FN := fnOf 7 ms__law_cycles
/-! ### _law_total -/
def st__law_total : Stmt := top 32
def d__law_total : He.DefD := ⟨("_law_total", none), "_law_total", "_law_total", defArgs st__law_total, defBody st__law_total, defScope st__law_total, [], []⟩
def N__law_total : List Str := ["_law_some", "_law_axes", "_law_axis", "_law_row"]
def ce__law_total_1 : ME := (mOp oIx (mOp oIx (mVar 3) (mC (.int 3))) (mVar 2))
def ce__law_total_2 : ME := (mCB bSum (aCons (mComp (iAny (mVar 0)) (.nm 3) tYesE ce__law_total_1 [3]) aNil))
def ms__law_total : MS := (sRet (mCB bTuple (aCons (mComp (iRange1 (aCons (mVar 1) aNil)) (.nm 2) tYesE ce__law_total_2 [2]) aNil)))
def fn__law_total : FN := fnOf 4 ms__law_total
/-! ### _law_lows -/
def st__law_lows : Stmt := top 35
def d__law_lows : He.DefD := ⟨("_law_lows", none), "_law_lows", "_law_lows", defArgs st__law_lows, defBody st__law_lows, defScope st__law_lows, [], []⟩
def N__law_lows : List Str := ["_law_rows_here", "_law_titles", "_law_axis", "_law_lows_here", "_law_title", "_law_waiting", "_law_way", "_law_total_here", "_law_row"]
def bd__law_lows_1 : MS := (sIf (tAnd (tVal (mOp (cEq false) (mOp oIx (mVar 8) (mC (.int 0))) (mOp oIx (mVar 6) (mUn oNeg (mC (.int 1)))))) (tVal (mOp (cIn true) (mOp oIx (mVar 8) (mC (.int 2))) (mVar 6)))) (sExpr (mBM isLst oAppend (mVar 5) (aCons (mTup (aCons (mOp oAdd (mVar 6) (mLst (aCons (mOp oIx (mVar 8) (mC (.int 2))) aNil))) (aCons (mOp oAdd (mVar 7) (mOp oIx (mOp oIx (mVar 8) (mC (.int 3))) (mVar 2))) aNil))) aNil))) sNext)
def bd__law_lows_2 : MS := (sSeq (sAsg (.tp [(.nm 6), (.nm 7)]) (mBM isLst oPop (mVar 5) aNil))
    (sSeq (sDPutE (mVar 3) (mVar 4) (mCB bMin (aCons (mOp oIx (mVar 3) (mVar 4)) (aCons (mVar 7) aNil))))
    (sFor (iAny (mVar 0)) (.nm 8) bd__law_lows_1)))
def bd__law_lows_3 : MS := (sSeq (sDPutG (.nm 5) (mVar 3) (mVar 4) (mTup (aCons (mC (.int 0)) (aCons (mLstR (aCons (mTup (aCons (mLst (aCons (mVar 4) aNil)) (aCons (mC (.int 0)) aNil))) aNil)) aNil))))
    (sWhile (tVal (mOp (cEq true) (mVar 5) (mLst aNil))) bd__law_lows_2))
def ms__law_lows : MS := (sSeq (sSet 3 mDNew)
    (sSeq (sFor (iAny (mVar 1)) (.nm 4) bd__law_lows_3)
    (sRet (mVar 3))))
def fn__law_lows : FN := fnOf 9 ms__law_lows
/-! ### target_of -/
def st_target_of : Stmt := top 20
def d_target_of : He.DefD := ⟨("target_of", none), "target_of", "target_of", defArgs st_target_of, defBody st_target_of, defScope st_target_of, [], []⟩
def N_target_of : List Str := ["system", "read", "name", "number"]
def ms_target_of : MS := (sSeq (sAsg (.tp [(.nm 2), (.nm 3)]) (mVar 1))
    (sRet (mOp oIx (mOp oIx (mOp oIx (mOp oIx (mFld "System" "kept_tables" (mVar 0)) (mVar 2)) (mC (.int 1))) (mVar 3)) (mC (.int 0)))))
def fn_target_of : FN := fnOf 4 ms_target_of
/-! ### vector_of -/
def st_vector_of : Stmt := top 19
def d_vector_of : He.DefD := ⟨("vector_of", none), "vector_of", "vector_of", defArgs st_vector_of, defBody st_vector_of, defScope st_vector_of, [], []⟩
def N_vector_of : List Str := ["system", "read", "name", "number"]
def ms_vector_of : MS := (sSeq (sAsg (.tp [(.nm 2), (.nm 3)]) (mVar 1))
    (sRet (mOp oIx (mOp oIx (mOp oIx (mOp oIx (mFld "System" "kept_tables" (mVar 0)) (mVar 2)) (mC (.int 1))) (mVar 3)) (mC (.int 1)))))
def fn_vector_of : FN := fnOf 4 ms_vector_of
/-! ### Lowering.__init__ -/
def st_Lowering_init : Stmt := (clB (top 22)).getD 0 (.Pass ⟨0, 0, 0, 0⟩)
def d_Lowering_init : He.DefD := ⟨("Lowering", some "__init__"), "__init__", "Lowering.__init__", defArgs st_Lowering_init, defBody st_Lowering_init, defScope st_Lowering_init, [], []⟩
def N_Lowering_init : List Str := ["self", "system", "axis", "turn", "read", "name", "low"]
def bd_Lowering_init_3 : MS := (sSeq (sSet 6 (mOp oAdd (mOp oIx (mFld "Lowering" "lows" (mVar 0)) (mFz 9 (mCall fn_target_of 2 [] (aCons (mVar 1) (aCons (mVar 4) aNil))))) (mOp oIx (mFz 9 (mCall fn_vector_of 2 [] (aCons (mVar 1) (aCons (mVar 4) aNil)))) (mVar 2))))
    (sIf (tVal (mOp oLt (mVar 6) (mOp oIx (mFld "Lowering" "lows" (mVar 0)) (mOp oIx (mVar 4) (mC (.int 0)))))) (sSeq (sDPutE (mFld "Lowering" "lows" (mVar 0)) (mOp oIx (mVar 4) (mC (.int 0))) (mVar 6))
    (sSeq (sDPutE (mFld "Lowering" "causes" (mVar 0)) (mOp oIx (mVar 4) (mC (.int 0))) (mVar 4))
    (sFldE "Lowering" "late" (mVar 0) (mOp oIx (mVar 4) (mC (.int 0)))))) sNext))
def bd_Lowering_init_4 : MS := (sSeq (sFldE "Lowering" "late" (mVar 0) (mC .non))
    (sFor (iAny (mFld "System" "named_reads" (mVar 1))) (.nm 4) bd_Lowering_init_3))
def ms_Lowering_init : MS := (sSeq (sFldE "Lowering" "lows" (mVar 0) (mDComp (iAny (mFz 9 (mProp "System" fn_System_names 1 [] (mVar 1)))) (.nm 5) tYesE (mVar 5) (mC (.int 0)) [5]))
    (sSeq (sFldE "Lowering" "causes" (mVar 0) mDNew)
    (sSeq (sFldE "Lowering" "late" (mVar 0) (mC .non))
    (sFor (iRange1 (aCons (mOp oAdd (mCB bLen (aCons (mFld "Lowering" "lows" (mVar 0)) aNil)) (mC (.int 1))) aNil)) (.nm 3) bd_Lowering_init_4))))
def fn_Lowering_init : FN := fnOf 7 ms_Lowering_init
/-! ### greatest_shifts -/
def st_greatest_shifts : Stmt := top 24
def d_greatest_shifts : He.DefD := ⟨("greatest_shifts", none), "greatest_shifts", "greatest_shifts", defArgs st_greatest_shifts, defBody st_greatest_shifts, defScope st_greatest_shifts, [], []⟩
def N_greatest_shifts : List Str := ["system", "lows", "axis", "name", "lowering"]
def ce_greatest_shifts_1 : ME := (mFz 9 (mMake "Lowering" fn_Lowering_init 3 [] (aCons (mVar 0) (aCons (mVar 2) aNil))))
def ce_greatest_shifts_2 : ME := (mOp (cIsN false) (mFld "Lowering" "late" (mVar 4)) (mC .non))
def ce_greatest_shifts_4 : ME := (mOp oIx (mFld "Lowering" "lows" (mVar 4)) (mVar 3))
def ce_greatest_shifts_5 : ME := (mCB bTuple (aCons (mComp (iAny (mVar 1)) (.nm 4) tYesE ce_greatest_shifts_4 [4]) aNil))
def ms_greatest_shifts : MS := (sSeq (sSet 1 (mComp (iRange1 (aCons (mFld "System" "dimension_count" (mVar 0)) aNil)) (.nm 2) tYesE ce_greatest_shifts_1 [2]))
    (sSeq (sIf (tNot (tTru (mCB bAll (aCons (mComp (iAny (mVar 1)) (.nm 4) tYesE ce_greatest_shifts_2 [4]) aNil)))) (sRet (mC .non)) sNext)
    (sRet (mDComp (iAny (mFz 9 (mProp "System" fn_System_names 1 [] (mVar 0)))) (.nm 3) tYesE (mVar 3) ce_greatest_shifts_5 [3]))))
def fn_greatest_shifts : FN := fnOf 5 ms_greatest_shifts
/-! ### _law_right -/
def st__law_right : Stmt := top 38
def d__law_right : He.DefD := ⟨("_law_right", none), "_law_right", "_law_right", defArgs st__law_right, defBody st__law_right, defScope st__law_right, [], []⟩
def N__law_right : List Str := ["_law_pool_here", "_law_axes", "_law_tables_here", "_law_made_here", "_law_titles", "_law_rows_here", "_law_title", "_law_due", "_law_again", "_law_lows_here", "_law_told", "_law_one", "_law_number", "_law_row", "_law_axis", "_law_low"]
def ce__law_right_1 : ME := (mOp oIx (mVar 11) (mC (.int 0)))
def ce__law_right_2 : ME := (mTup (aCons (mVar 6) (aCons (mVar 12) (aCons (mOp oIx (mVar 13) (mC (.int 0))) (aCons (mOp oIx (mVar 13) (mC (.int 1))) aNil)))))
def bd__law_right_3 : MS := (sExpr (mBM isLst oExtend (mVar 5) (aCons (mComp (iEnumM (aCons (mFz 9 (mMeth "System" "reads" fn_System_reads 2 [] (mVar 3) (aCons (mVar 6) aNil))) aNil)) (.tp [(.nm 12), (.nm 13)]) tYesE ce__law_right_2 [12, 13]) aNil)))
def ce__law_right_5 : ME := (mFz 9 (mCall fn__law_lows 3 [] (aCons (mVar 5) (aCons (mVar 4) (aCons (mVar 14) aNil)))))
def bd__law_right_7 : MS := (sDPutE (mVar 7) (mVar 6) (mCB bTuple (aCons (mComp (iAny (mVar 9)) (.nm 15) tYesE (mOp oIx (mVar 15) (mVar 6)) [15]) aNil)))
def bd__law_right_8 : MS := (sSeq (sSet 10 (mCallN fn_greatest_shifts 1 0 1 (prm .non [.inr 0]) aNil (aCons (mVar 3) aNil)))
    (sSeq (sIf (tOr (tVal (mOp (cEqDN true) (mVar 10) (mVar 7))) (tVal (mOp (cEqDN true) (mFz 9 (mCall fn_greatest_shifts 1 [] (aCons (mVar 3) aNil))) (mVar 7)))) (sRet (mC (.bl false))) sNext)
    (sIf (tVal (mOp (cIsN true) (mVar 10) (mC .non))) (sExpr (mBM isDct oClear (mVar 10) aNil)) sNext)))
def ms__law_right : MS := (sSeq (sSet 1 (mOp oAdd (mC (.int 1)) (mFz 9 (mCall fn__law_draw 2 [] (aCons (mVar 0) (aCons (mC (.int 3)) aNil))))))
    (sSeq (sSet 2 (mFz 9 (mCall fn__law_drawn 2 [] (aCons (mVar 0) (aCons (mVar 1) aNil)))))
    (sSeq (sAsg (.tp [(.nm 3), (.nm 4)]) (mTup (aCons (mFz 9 (mCall fn__law_made 2 [] (aCons (mVar 1) (aCons (mVar 2) aNil)))) (aCons (mCB bSortS (aCons (mComp (iAny (mVar 2)) (.nm 11) tYesE ce__law_right_1 [11]) aNil)) aNil))))
    (sSeq (sIf (tVal (mOp (cEq false) (mFz 9 (mCall fn__law_draw 2 [] (aCons (mVar 0) (aCons (mC (.int 2)) aNil)))) (mC (.int 0)))) (sSet 3 (mFz 9 (mCall fn_shifted 2 [] (aCons (mVar 3) (aCons (mFz 9 (mCall fn__law_shift 3 [] (aCons (mVar 0) (aCons (mVar 4) (aCons (mVar 1) aNil))))) aNil))))) sNext)
    (sSeq (sSet 5 (mLstR aNil))
    (sSeq (sFor (iAny (mVar 4)) (.nm 6) bd__law_right_3)
    (sFzV 5 (sSeq (sSet 7 (mC .non))
    (sSeq (sIf (tVal (mOp (cEq false) (mComp (iAny (mFz 9 (mCall fn__law_cycles 1 [] (aCons (mVar 5) aNil)))) (.nm 11) (tVal (mOp oLt (mCB bMin (aCons (mFz 9 (mCall fn__law_total 2 [] (aCons (mVar 11) (aCons (mVar 1) aNil)))) aNil)) (mC (.int 0)))) (mVar 11) [11]) (mLst aNil))) (sSeq (sPar 9 7 (aCons (mComp (iRange1 (aCons (mVar 1) aNil)) (.nm 14) tYesE ce__law_right_5 [14]) (aCons mDNew aNil)))
    (sFor (iAny (mVar 4)) (.nm 6) bd__law_right_7)) sNext)
    (sSeq (sFor (iRange1 (aCons (mC (.int 2)) aNil)) (.nm 8) bd__law_right_8)
    (sRet (mC (.bl true)))))))))))))
def fn__law_right : FN := fnOf 16 ms__law_right
/-! ### law -/
def st_law : Stmt := top 39
def d_law : He.DefD := ⟨("law", none), "law", "law", defArgs st_law, defBody st_law, defScope st_law, [], []⟩
def N_law : List Str := ["_law_script", "_law_at", "_law_chain", "_law_less", "_law_six", "_law_due", "_law_told", "_law_pool_here", "_law_turn", "_law_one", "_law_two", "_law_title"]
def bd_law_1 : MS := (sIf (tNot (tTru (mFz 9 (mCall fn__law_right 1 [] (aCons (mVar 7) aNil))))) (sRet (mC (.bl false))) sNext)
def bd_law_2 : MS := (sSeq (sSet 7 (mCall fn__law_pool 2 [] (aCons (mVar 0) (aCons (mVar 1) aNil))))
    (sFor (iRange1 (aCons (mC (.int 6)) aNil)) (.nm 8) bd_law_1))
def ce_law_3 : ME := (mTup (aCons (mVar 9) (aCons (mC (.int 0)) (aCons (mLst (aCons (mTup (aCons (mVar 10) (aCons (mTup (aCons (mC (.int 0)) aNil)) (aCons (mC (.int 1)) aNil)))) aNil)) aNil))))
def ce_law_4 : ME := (mTup (aCons (mVar 11) (aCons (mTup (aCons (mUn oNeg (mC (.int 3))) aNil)) aNil)))
def ms_law : MS := (sSeq (sFor (iRange1 (aCons (mCB bMax (aCons (mC (.int 1)) (aCons (mCB bMin (aCons (mC (.int 10)) (aCons (mCB bLen (aCons (mVar 0) aNil)) aNil))) aNil))) aNil)) (.nm 1) bd_law_2)
    (sSeq (sSet 2 (mFz 9 (mMake "System" fn_System_init 4 [(.int 1000003)] (aCons (mC (.int 1)) (aCons (mLst (aCons (mTup (aCons (mC (.str "a")) (aCons (mC (.int 0)) (aCons (mLst (aCons (mTup (aCons (mC (.str "b")) (aCons (mTup (aCons (mUn oNeg (mC (.int 3))) aNil)) (aCons (mC (.int 1)) aNil)))) aNil)) aNil)))) (aCons (mTup (aCons (mC (.str "b")) (aCons (mC (.int 1)) (aCons (mLst (aCons (mTup (aCons (mC (.str "a")) (aCons (mTup (aCons (mC (.int 4)) aNil)) (aCons (mC (.int 1)) aNil)))) aNil)) aNil)))) aNil))) aNil)))))
    (sSeq (sSet 3 (mFz 9 (mMake "System" fn_System_init 4 [(.int 1000003)] (aCons (mC (.int 2)) (aCons (mLst (aCons (mTup (aCons (mC (.str "a")) (aCons (mC (.int 0)) (aCons (mLst (aCons (mTup (aCons (mC (.str "a")) (aCons (mTup (aCons (mC (.int 1)) (aCons (mUn oNeg (mC (.int 1))) aNil))) (aCons (mC (.int 1)) aNil)))) aNil)) aNil)))) (aCons (mTup (aCons (mC (.str "b")) (aCons (mC (.int 2)) (aCons (mLst aNil) aNil)))) aNil))) aNil)))))
    (sSeq (sSet 4 (mComp (iZipS (aCons (mC (.str "abcd")) (aCons (mC (.str "bcde")) aNil))) (.tp [(.nm 9), (.nm 10)]) tYesE ce_law_3 [9, 10]))
    (sSeq (sSet 4 (mOp oAdd (mVar 4) (mLst (aCons (mTup (aCons (mC (.str "e")) (aCons (mC (.int 0)) (aCons (mLst (aCons (mTup (aCons (mC (.str "f")) (aCons (mTup (aCons (mUn oNeg (mC (.int 3))) aNil)) (aCons (mC (.int 1)) aNil)))) aNil)) aNil)))) (aCons (mTup (aCons (mC (.str "f")) (aCons (mC (.int 0)) (aCons (mLst aNil) aNil)))) aNil)))))
    (sSeq (sSet 5 (mFz 9 (mCB bDictP (aCons (mOp oAdd (mComp (iAny (mC (.str "abcde"))) (.nm 11) tYesE ce_law_4 [11]) (mLst (aCons (mTup (aCons (mC (.str "f")) (aCons (mTup (aCons (mC (.int 0)) aNil)) aNil))) aNil))) aNil))))
    (sSeq (sSet 6 (mLst (aCons (mFz 9 (mCall fn_greatest_shifts 1 [] (aCons (mVar 2) aNil))) (aCons (mFz 9 (mCall fn_greatest_shifts 1 [] (aCons (mVar 3) aNil))) (aCons (mFz 9 (mCall fn_greatest_shifts 1 [] (aCons (mFz 9 (mMake "System" fn_System_init 4 [(.int 1000003)] (aCons (mC (.int 1)) (aCons (mVar 4) aNil)))) aNil))) aNil)))))
    (sRet (mOp cEqLD (mVar 6) (mFz 9 (mLst (aCons (mDisp ["a", "b"] (aCons (mTup (aCons (mUn oNeg (mC (.int 3))) aNil)) (aCons (mTup (aCons (mC (.int 0)) aNil)) aNil))) (aCons (mC .non) (aCons (mVar 5) aNil))))))))))))))
def fn_law : FN := fnOf 12 ms_law
def facts : List He.Fa := [.free "range", .free "len", .free "min", .free "max", .free "abs", .glo "_law_pool", .glo "_law_draw", .free "int", .free "tuple", .glo "_law_vector", .free "zip", .glo "_law_wide", .glo "_law_tables", .glo "_law_drawn", .int "MOST_DIMENSIONS" 3, .int "MOST_TABLES" 6, .free "enumerate", .int "MOST_LETTERS" 8, .str "LETTERS" "abcdefghijklmnopqrstuvwxyz", .free "all", .glo "is_name", .int "MOST_READS" 12, .glo "is_read", .glo "check_system", .glo "System", .cls "System", .noat "System" "dimension_count", .noat "System" "kept_modulus", .noat "System" "kept_tables", .free "sorted", .noat "System" "named_reads", .mkr "System", .glo "_law_made", .free "list", .glo "check_table", .meth "System" "reads", .meth "System" "constant", .glo "shifted", .glo "_law_shift", .free "set", .glo "_law_cycles", .free "sum", .glo "_law_total", .glo "_law_lows", .glo "Lowering", .cls "Lowering", .noat "Lowering" "lows", .noat "Lowering" "causes", .noat "Lowering" "late", .glo "target_of", .glo "vector_of", .mkr "Lowering", .glo "greatest_shifts", .glo "_law_right", .free "dict", .glo "law"]
def defs : List He.DefD := [d_law, d__law_pool, d__law_right, d__law_draw, d__law_drawn, d__law_wide, d__law_vector, d__law_tables, d__law_made, d_System_init, d_check_system, d_is_name, d_is_read, d_shifted, d_System_reads, d_check_table, d_System_constant, d__law_shift, d__law_cycles, d__law_total, d__law_lows, d_greatest_shifts, d_Lowering_init, d_target_of, d_vector_of]
def gets : List GetD := [p_System_names, p_System_modulus]
end LW
set_option maxHeartbeats 0
namespace LW
open PySem PySem.Spec PyProof.Rows L2 VM
abbrev R : PySem.W.OpenRow := PySem.W.OpenLaw.row PySem.Challenge.rw_farreads_k30_greatest_shifts
abbrev hk : PySem.W.Hook := hookP 6 facts defs gets errs (tfs.map (·.1))
def ob (s : PySem.W.SharedT) : AlP := obsP 6 facts defs gets errs (tfs.map (·.1)) (HandSHeadRun.getT s)
theorem ob_eq (s : PySem.W.SharedT) : ob s = hk.obs s.abs := obsP_eq (HandSHeadRun.getT_eq s)
def loose : List PySem.Str := (["_wall", "ReadError", "InvalidSystem", "UnknownTable", "InvalidShifts", "InvalidNumber", "is_name", "is_read", "check_system", "check_table", "System", "vector_of", "target_of", "Lowering", "shifted", "greatest_shifts", "_law_pool", "_law_draw", "_law_vector", "_law_tables", "_law_rows", "_law_made", "_law_total", "_law_cycles", "_law_shift", "_law_lows", "_law_wide", "_law_drawn", "_law_right", "MOST_DIMENSIONS"] : List PySem.Str) ++ (["MOST_TABLES", "MOST_READS", "MOST_LETTERS", "LETTERS"] : List PySem.Str)
theorem run (w : World) : HandSHeadRun.RunEq R (PySem.W.view R.prog [39]) hk ob 6000 loose w := by
  intro os
  kernel_rfl
end LW
set_option maxHeartbeats 4000000
namespace LW
open PySem PySem.Spec PyProof.Rows L2 VM
theorem sc__law_pool : FnScope N__law_pool (N__law_pool.take 2) (defScope st__law_pool) := ⟨rfl, rfl, rfl, by decide +kernel, rfl, by decide +kernel, by decide +kernel⟩
theorem ok__law_pool {w : World} {K : PySem.W.Frag} {mg : Str → Option Value} {base : Heap} (W : Wd facts defs gets errs K mg base) {fd : FuncData} (F : FunD K "_law_pool" "_law_pool" (defArgs st__law_pool) (defBody st__law_pool) (defScope st__law_pool) [] [] (He.fAd K d__law_pool.at_) fd) :
    FnG prg w K mg base CX0 1 (He.fAd K d__law_pool.at_) fd (N__law_pool.take 2) (spOf K ⟨mg, w⟩ 2 fn__law_pool) := by
  have b_len := W.free 1 (x := "len") rfl
  have b_abs := W.free 4 (x := "abs") rfl
  have b_max := W.free 3 (x := "max") rfl
  refine fn_ok0 (ms := ms__law_pool) F sc__law_pool fun cdv A outer s H E hr => ?_
  unfold ms__law_pool
  exact (rs_cons (rs_set (i := 2) sc__law_pool.nd re_int)
    (rs_cons (rs_if (rt_cmp op_lt_int (re_var 1) (re_cb cb_len rfl b_len (by rfl) (ra_cons (re_var 0) ra_nil)) (by rfl)) (rs_one (rs_set (i := 2) sc__law_pool.nd (re_sub (ix_any hr) (re_var 0) (re_var 1) (fun _ _ => rfl)))) rs_nil)
    (rs_one (rs_ret (re_lstR (ra_cons (re_cb (cb_max rfl hr) rfl b_max (by rfl) (ra_cons re_int (ra_cons (re_op op_sub_int (re_cb cb_abs rfl b_abs (by rfl) (ra_cons (re_var 2) ra_nil)) (re_op op_pow_int re_int re_int)) ra_nil))) (ra_cons (re_op op_add_any (re_op op_mod_int (re_var 2) re_int) (re_op op_mul_any re_int (re_op op_add_any (re_var 1) re_int))) (ra_cons re_int ra_nil))))))))
theorem sc__law_draw : FnScope N__law_draw (N__law_draw.take 2) (defScope st__law_draw) := ⟨rfl, rfl, rfl, by decide +kernel, rfl, by decide +kernel, by decide +kernel⟩
theorem ok__law_draw {w : World} {K : PySem.W.Frag} {mg : Str → Option Value} {base : Heap} (W : Wd facts defs gets errs K mg base) {fd : FuncData} (F : FunD K "_law_draw" "_law_draw" (defArgs st__law_draw) (defBody st__law_draw) (defScope st__law_draw) [] [] (He.fAd K d__law_draw.at_) fd) :
    FnG prg w K mg base CX0 1 (He.fAd K d__law_draw.at_) fd (N__law_draw.take 2) (spOf K ⟨mg, w⟩ 2 fn__law_draw) := by
  refine fn_ok0 (ms := ms__law_draw) F sc__law_draw fun cdv A outer s H E hr => ?_
  unfold ms__law_draw
  exact (rs_cons (rs_if (rt_cmp op_gt_int (re_sub (ix_any hr) (re_var 0) re_int (fun _ _ => rfl)) re_int (by rfl)) (rs_cons (rs_set (i := 3) sc__law_draw.nd (re_op op_mod_int (re_sub (ix_any hr) (re_var 0) re_int (fun _ _ => rfl)) (re_var 1)))
    (rs_cons (rs_lput (re_var 0) re_int (re_op op_div_int (re_sub (ix_any hr) (re_var 0) re_int (fun _ _ => rfl)) (re_var 1)))
    (rs_one (rs_ret (re_var 3))))) rs_nil)
    (rs_cons (rs_lput (re_var 0) re_int (re_op op_add_any (re_sub (ix_any hr) (re_var 0) re_int (fun _ _ => rfl)) re_int))
    (rs_cons (rs_set (i := 2) sc__law_draw.nd (re_op op_mod_int (re_op op_pow_int (re_op op_add_any (re_sub (ix_any hr) (re_var 0) re_int (fun _ _ => rfl)) (re_op op_mul_any re_int (re_sub (ix_any hr) (re_var 0) re_int (fun _ _ => rfl)))) re_int) re_int))
    (rs_cons (rs_set (i := 2) sc__law_draw.nd (re_op op_mod_int (re_op op_pow_int (re_op op_add_any (re_var 2) (re_op op_mul_any re_int (re_sub (ix_any hr) (re_var 0) re_int (fun _ _ => rfl)))) re_int) re_int))
    (rs_one (rs_ret (re_op op_mod_int (re_op op_div_int (re_var 2) re_int) (re_var 1))))))))
theorem sc__law_vector : FnScope N__law_vector (N__law_vector.take 3) (defScope st__law_vector) := ⟨rfl, rfl, rfl, by decide +kernel, rfl, by decide +kernel, by decide +kernel⟩
theorem ok__law_vector {w : World} {K : PySem.W.Frag} {mg : Str → Option Value} {base : Heap} (W : Wd facts defs gets errs K mg base) {fd : FuncData} (F : FunD K "_law_vector" "_law_vector" (defArgs st__law_vector) (defBody st__law_vector) (defScope st__law_vector) [] [] (He.fAd K d__law_vector.at_) fd) :
    FnG prg w K mg base CX0 2 (He.fAd K d__law_vector.at_) fd (N__law_vector.take 3) (spOf K ⟨mg, w⟩ 3 fn__law_vector) := by
  have b_range := W.free 0 (x := "range") rfl
  obtain ⟨fd__law_draw, F__law_draw⟩ := W.c.def_ 3 (d := d__law_draw) rfl
  have G__law_draw := ok__law_draw (w := w) W F__law_draw
  have g__law_draw := W.glo 6 (x := "_law_draw") rfl
  have B__law_draw := FunD.bindsN (ps := N__law_draw.take 2) F__law_draw (fun _ _ _ _ _ _ us hl => match us, hl with | [_, _], _ => rfl)
  have b_len := W.free 1 (x := "len") rfl
  have b_min := W.free 2 (x := "min") rfl
  have b_max := W.free 3 (x := "max") rfl
  have b_tuple := W.free 8 (x := "tuple") rfl
  refine fn_ok0 (ms := ms__law_vector) F sc__law_vector fun cdv A outer s H E hr => ?_
  unfold ms__law_vector
  exact (rs_cons (rs_setCompR (own := [("_law_axis", 4)]) rfl sc__law_vector.nd (sw_true rfl rfl rfl rfl) (ri_range1 rfl b_range (ra_cons (re_var 1) ra_nil)) (blkOk_by (own := [("_law_axis", 4)]) (by kernel_rfl)) (fun _ _ _ _ _ => (rg_nm sc__law_vector.nd)) (fun _ _ _ _ _ => rts_nil) (fun _ _ _ _ _ => (re_sub (ix_any hr) (re_lst (ra_cons re_int (ra_cons re_int (ra_cons re_int (ra_cons (re_un un_neg_int re_int) (ra_cons re_int (ra_cons (re_un un_neg_int re_int) (ra_cons re_int (ra_cons (re_op op_sub_int (re_fz 9 (re_call G__law_draw (hr.mono (by decide)) rfl g__law_draw F__law_draw.kp B__law_draw .nil (fun _ _ _ => rfl) pass_any (ra_cons (re_var 0) (ra_cons re_int ra_nil)))) re_int) ra_nil))))))))) (re_fz 9 (re_call G__law_draw (hr.mono (by decide)) rfl g__law_draw F__law_draw.kp B__law_draw .nil (fun _ _ _ => rfl) pass_any (ra_cons (re_var 0) (ra_cons re_int ra_nil)))) (fun _ _ => rfl))))
    (rs_cons (rs_if (PW.pt (rw_and (rt_cmp (op_ne_any hr) (re_var 2) (re_lst ra_nil) (by rfl)) (rw_and1 (rt_cmp (op_eq_any hr) (re_fz 9 (re_call G__law_draw (hr.mono (by decide)) rfl g__law_draw F__law_draw.kp B__law_draw .nil (fun _ _ _ => rfl) pass_any (ra_cons (re_var 0) (ra_cons re_int ra_nil)))) re_int (by rfl))))) (rs_cons (rs_setCompR (own := [("_law_part", 5)]) rfl sc__law_vector.nd (sw_true rfl rfl rfl rfl) (ri_any (re_sub (ix_any hr) (re_sub (ix_any hr) (re_var 2) (re_fz 9 (re_call G__law_draw (hr.mono (by decide)) rfl g__law_draw F__law_draw.kp B__law_draw .nil (fun _ _ _ => rfl) pass_any (ra_cons (re_var 0) (ra_cons (re_cb cb_len rfl b_len (by rfl) (ra_cons (re_var 2) ra_nil)) ra_nil)))) (fun _ _ => rfl)) re_int (fun _ _ => rfl))) (blkOk_by (own := [("_law_part", 5)]) (by kernel_rfl)) (fun _ _ _ _ _ => (rg_nm sc__law_vector.nd)) (fun _ _ _ _ _ => rts_nil) (fun _ _ _ _ _ => (re_op op_sub_int re_int (re_var 5))))
    (rs_one (rs_if (rt_cmp (op_eq_any hr) (re_fz 9 (re_call G__law_draw (hr.mono (by decide)) rfl g__law_draw F__law_draw.kp B__law_draw .nil (fun _ _ _ => rfl) pass_any (ra_cons (re_var 0) (ra_cons re_int ra_nil)))) re_int (by rfl)) (rs_cons (rs_set (i := 4) sc__law_vector.nd (re_fz 9 (re_call G__law_draw (hr.mono (by decide)) rfl g__law_draw F__law_draw.kp B__law_draw .nil (fun _ _ _ => rfl) pass_any (ra_cons (re_var 0) (ra_cons (re_var 1) ra_nil)))))
    (rs_one (rs_lput (re_var 3) (re_var 4) (re_cb (cb_max rfl hr) rfl b_max (by rfl) (ra_cons (re_un un_neg_int re_int) (ra_cons (re_cb (cb_min rfl hr) rfl b_min (by rfl) (ra_cons re_int (ra_cons (re_op op_add_any (re_sub (ix_any hr) (re_var 3) (re_var 4) (fun _ _ => rfl)) re_int) ra_nil))) ra_nil)))))) rs_nil))) rs_nil)
    (rs_one (rs_ret (re_cty cb_tuple rfl b_tuple (by rfl) (ra_cons (re_var 3) ra_nil))))))
theorem sc__law_wide : FnScope N__law_wide (N__law_wide.take 3) (defScope st__law_wide) := ⟨rfl, rfl, rfl, by decide +kernel, rfl, by decide +kernel, by decide +kernel⟩
theorem ok__law_wide {w : World} {K : PySem.W.Frag} {mg : Str → Option Value} {base : Heap} (W : Wd facts defs gets errs K mg base) {fd : FuncData} (F : FunD K "_law_wide" "_law_wide" (defArgs st__law_wide) (defBody st__law_wide) (defScope st__law_wide) [] [] (He.fAd K d__law_wide.at_) fd) :
    FnG prg w K mg base CX0 3 (He.fAd K d__law_wide.at_) fd (N__law_wide.take 3) (spOf K ⟨mg, w⟩ 3 fn__law_wide) := by
  have b_len := W.free 1 (x := "len") rfl
  obtain ⟨fd__law_draw, F__law_draw⟩ := W.c.def_ 3 (d := d__law_draw) rfl
  have G__law_draw := ok__law_draw (w := w) W F__law_draw
  have g__law_draw := W.glo 6 (x := "_law_draw") rfl
  have B__law_draw := FunD.bindsN (ps := N__law_draw.take 2) F__law_draw (fun _ _ _ _ _ _ us hl => match us, hl with | [_, _], _ => rfl)
  have b_int := W.free 7 (x := "int") rfl
  have b_range := W.free 0 (x := "range") rfl
  obtain ⟨fd__law_vector, F__law_vector⟩ := W.c.def_ 6 (d := d__law_vector) rfl
  have G__law_vector := ok__law_vector (w := w) W F__law_vector
  have g__law_vector := W.glo 9 (x := "_law_vector") rfl
  have B__law_vector := FunD.bindsN (ps := N__law_vector.take 3) F__law_vector (fun _ _ _ _ _ _ us hl => match us, hl with | [_, _, _], _ => rfl)
  have b_zip := W.free 10 (x := "zip") rfl
  refine fn_ok0 (ms := ms__law_wide) F sc__law_wide fun cdv A outer s H E hr => ?_
  unfold ms__law_wide
  exact (rs_cons (rs_par (i := 3) (j := 4) rfl sc__law_wide.nd (ra_cons (re_lstR (ra_cons re_str (ra_cons re_str (ra_cons re_str (ra_cons re_str (ra_cons re_str (ra_cons re_str ra_nil))))))) (ra_cons (re_lstR ra_nil) ra_nil)))
    (rs_cons (rs_while PassesOwn.never (PW.pt (rw_and (rt_cmp op_lt_int (re_cb cb_len rfl b_len (by rfl) (ra_cons (re_var 4) ra_nil)) (re_op op_add_any re_int (re_fz 9 (re_call G__law_draw (hr.mono (by decide)) rfl g__law_draw F__law_draw.kp B__law_draw .nil (fun _ _ _ => rfl) pass_any (ra_cons (re_var 0) (ra_cons re_int ra_nil))))) (by rfl)) (rw_and1 (rt_cmp (op_ne_any hr) (re_var 3) (re_lst ra_nil) (by rfl))))) (rs_one (rs_expr (re_bm PySem.F.plainAttrs_list PySem.F.slot_list_append PySem.F.type_list_append mt_append_e isLst_ty (re_var 4) (ra_cons (re_bm PySem.F.plainAttrs_list PySem.F.slot_list_pop PySem.F.type_list_pop mt_pop_e isLst_ty (re_var 3) (ra_cons (re_fz 9 (re_call G__law_draw (hr.mono (by decide)) rfl g__law_draw F__law_draw.kp B__law_draw .nil (fun _ _ _ => rfl) pass_any (ra_cons (re_var 0) (ra_cons (re_cb cb_len rfl b_len (by rfl) (ra_cons (re_var 3) ra_nil)) ra_nil)))) ra_nil)) ra_nil)))))
    (rs_cons (rs_set (i := 5) sc__law_wide.nd (re_slice sl_any re_str ro_no (ro_some (re_op op_mul_any (re_fz 9 (re_call G__law_draw (hr.mono (by decide)) rfl g__law_draw F__law_draw.kp B__law_draw .nil (fun _ _ _ => rfl) pass_any (ra_cons (re_var 0) (ra_cons re_int ra_nil)))) (re_cty cb_int rfl b_int (by rfl) (ra_cons (re_cmp (op_eq_any hr) (re_fz 9 (re_call G__law_draw (hr.mono (by decide)) rfl g__law_draw F__law_draw.kp B__law_draw .nil (fun _ _ _ => rfl) pass_any (ra_cons (re_var 0) (ra_cons re_int ra_nil)))) re_int (by rfl)) ra_nil))))))
    (rs_cons (rs_setCompR (own := [("_law_sign", 13)]) rfl sc__law_wide.nd (sw_true rfl rfl rfl rfl) (ri_any (re_var 4)) (blkOk_by (own := [("_law_sign", 13)]) (by kernel_rfl)) (fun _ _ _ _ _ => (rg_nm sc__law_wide.nd)) (fun _ _ _ _ _ => rts_nil) (fun _ _ _ _ _ => (re_op op_add_any (re_var 5) (re_var 13))))
    (rs_cons (rs_par (i := 6) (j := 7) rfl sc__law_wide.nd (ra_cons (re_comp (own := [("_law_title", 14)]) rfl sc__law_wide.nd (ri_any (re_var 4)) (blkOk_by (own := [("_law_title", 14)]) (by kernel_rfl)) (fun _ _ _ _ _ => (rg_nm sc__law_wide.nd)) (fun _ _ _ _ _ => rts_nil) (fun _ _ _ _ _ => (re_lstR ra_nil))) (ra_cons (re_lstR ra_nil) ra_nil)))
    (rs_cons (rs_set (i := 8) sc__law_wide.nd (re_op op_add_any (re_op op_sub_int (re_cb cb_len rfl b_len (by rfl) (ra_cons (re_var 4) ra_nil)) re_int) (re_fz 9 (re_call G__law_draw (hr.mono (by decide)) rfl g__law_draw F__law_draw.kp B__law_draw .nil (fun _ _ _ => rfl) pass_any (ra_cons (re_var 0) (ra_cons re_int ra_nil))))))
    (rs_cons (rs_for PassesOwn.never rfl (ri_range1 rfl b_range (ra_cons (re_op op_add_any (re_var 8) (re_fz 9 (re_call G__law_draw (hr.mono (by decide)) rfl g__law_draw F__law_draw.kp B__law_draw .nil (fun _ _ _ => rfl) pass_any (ra_cons (re_var 0) (ra_cons (re_op op_add_any (re_op op_sub_int (re_var 2) (re_var 8)) re_int) ra_nil))))) ra_nil)) (rg_nm sc__law_wide.nd) (rs_cons (rs_par (i := 10) (j := 11) rfl sc__law_wide.nd (ra_cons (re_var 9) (ra_cons (re_op op_mod_int (re_op op_add_any (re_var 9) re_int) (re_cb cb_len rfl b_len (by rfl) (ra_cons (re_var 4) ra_nil))) ra_nil)))
    (rs_cons (rs_if (rt_cmp op_ge_int (re_var 9) (re_var 8) (by rfl)) (rs_one (rs_par (i := 10) (j := 11) rfl sc__law_wide.nd (ra_cons (re_fz 9 (re_call G__law_draw (hr.mono (by decide)) rfl g__law_draw F__law_draw.kp B__law_draw .nil (fun _ _ _ => rfl) pass_any (ra_cons (re_var 0) (ra_cons (re_cb cb_len rfl b_len (by rfl) (ra_cons (re_var 4) ra_nil)) ra_nil)))) (ra_cons (re_fz 9 (re_call G__law_draw (hr.mono (by decide)) rfl g__law_draw F__law_draw.kp B__law_draw .nil (fun _ _ _ => rfl) pass_any (ra_cons (re_var 0) (ra_cons (re_cb cb_len rfl b_len (by rfl) (ra_cons (re_var 4) ra_nil)) ra_nil)))) ra_nil)))) rs_nil)
    (rs_cons (rs_set (i := 12) sc__law_wide.nd (re_tup (ra_cons (re_sub (ix_any hr) (re_var 4) (re_var 10) (fun _ _ => rfl)) (ra_cons (re_cb cb_len rfl b_len (by rfl) (ra_cons (re_sub (ix_any hr) (re_var 6) (re_var 10) (fun _ _ => rfl)) ra_nil)) (ra_cons (re_sub (ix_any hr) (re_var 4) (re_var 11) (fun _ _ => rfl)) (ra_cons (re_fz 9 (re_call G__law_vector (hr.mono (by decide)) rfl g__law_vector F__law_vector.kp B__law_vector .nil (fun _ _ _ => rfl) pass_any (ra_cons (re_var 0) (ra_cons (re_var 1) (ra_cons (re_var 7) ra_nil))))) ra_nil))))))
    (rs_cons (rs_expr (re_bm PySem.F.plainAttrs_list PySem.F.slot_list_append PySem.F.type_list_append mt_append_e isLst_ty (re_sub (ix_any hr) (re_var 6) (re_var 10) (fun _ _ => rfl)) (ra_cons (re_tup (ra_cons (re_sub (ix_any hr) (re_var 12) re_int (fun _ _ => rfl)) (ra_cons (re_sub (ix_any hr) (re_var 12) re_int (fun _ _ => rfl)) (ra_cons re_int ra_nil)))) ra_nil)))
    (rs_one (rs_expr (re_bm PySem.F.plainAttrs_list PySem.F.slot_list_append PySem.F.type_list_append mt_append_e isLst_ty (re_var 7) (ra_cons (re_var 12) ra_nil)))))))))
    (rs_one (rs_ret (re_comp (own := [("_law_title", 14), ("_law_some", 15)]) rfl sc__law_wide.nd (ri_zip rfl b_zip (ra_cons (re_var 4) (ra_cons (re_var 6) ra_nil))) (blkOk_by (own := [("_law_title", 14), ("_law_some", 15)]) (by kernel_rfl)) (fun _ _ _ _ _ => (rg_tp rfl (rgs_cons (rg_nm sc__law_wide.nd) (rgs_cons (rg_nm sc__law_wide.nd) rgs_nil)))) (fun _ _ _ _ _ => rts_nil) (fun _ _ _ _ _ => (re_tup (ra_cons (re_var 14) (ra_cons re_int (ra_cons (re_var 15) ra_nil)))))))))))))))
theorem sc__law_tables : FnScope N__law_tables (N__law_tables.take 3) (defScope st__law_tables) := ⟨rfl, rfl, rfl, by decide +kernel, rfl, by decide +kernel, by decide +kernel⟩
theorem ok__law_tables {w : World} {K : PySem.W.Frag} {mg : Str → Option Value} {base : Heap} (W : Wd facts defs gets errs K mg base) {fd : FuncData} (F : FunD K "_law_tables" "_law_tables" (defArgs st__law_tables) (defBody st__law_tables) (defScope st__law_tables) [] [] (He.fAd K d__law_tables.at_) fd) :
    FnG prg w K mg base CX0 3 (He.fAd K d__law_tables.at_) fd (N__law_tables.take 3) (spOf K ⟨mg, w⟩ 3 fn__law_tables) := by
  obtain ⟨fd__law_draw, F__law_draw⟩ := W.c.def_ 3 (d := d__law_draw) rfl
  have G__law_draw := ok__law_draw (w := w) W F__law_draw
  have g__law_draw := W.glo 6 (x := "_law_draw") rfl
  have B__law_draw := FunD.bindsN (ps := N__law_draw.take 2) F__law_draw (fun _ _ _ _ _ _ us hl => match us, hl with | [_, _], _ => rfl)
  have b_int := W.free 7 (x := "int") rfl
  have b_range := W.free 0 (x := "range") rfl
  have b_len := W.free 1 (x := "len") rfl
  obtain ⟨fd__law_vector, F__law_vector⟩ := W.c.def_ 6 (d := d__law_vector) rfl
  have G__law_vector := ok__law_vector (w := w) W F__law_vector
  have g__law_vector := W.glo 9 (x := "_law_vector") rfl
  have B__law_vector := FunD.bindsN (ps := N__law_vector.take 3) F__law_vector (fun _ _ _ _ _ _ us hl => match us, hl with | [_, _, _], _ => rfl)
  have b_zip := W.free 10 (x := "zip") rfl
  refine fn_ok0 (ms := ms__law_tables) F sc__law_tables fun cdv A outer s H E hr => ?_
  unfold ms__law_tables
  exact (rs_cons (rs_set (i := 3) sc__law_tables.nd (re_slice sl_any re_str ro_no (ro_some (re_op op_mul_any (re_fz 9 (re_call G__law_draw (hr.mono (by decide)) rfl g__law_draw F__law_draw.kp B__law_draw .nil (fun _ _ _ => rfl) pass_any (ra_cons (re_var 0) (ra_cons re_int ra_nil)))) (re_cty cb_int rfl b_int (by rfl) (ra_cons (re_cmp (op_eq_any hr) (re_fz 9 (re_call G__law_draw (hr.mono (by decide)) rfl g__law_draw F__law_draw.kp B__law_draw .nil (fun _ _ _ => rfl) pass_any (ra_cons (re_var 0) (ra_cons re_int ra_nil)))) re_int (by rfl)) ra_nil))))))
    (rs_cons (rs_setComp (own := [("_law_sign", 11)]) rfl sc__law_tables.nd (sw_true rfl rfl rfl rfl) (ri_any (re_slice sl_any (re_lst (ra_cons re_str (ra_cons re_str (ra_cons re_str (ra_cons re_str ra_nil))))) ro_no (ro_some (re_op op_add_any re_int (re_fz 9 (re_call G__law_draw (hr.mono (by decide)) rfl g__law_draw F__law_draw.kp B__law_draw .nil (fun _ _ _ => rfl) pass_any (ra_cons (re_var 0) (ra_cons re_int ra_nil)))))))) (blkOk_by (own := [("_law_sign", 11)]) (by kernel_rfl)) (fun _ _ _ _ _ => (rg_nm sc__law_tables.nd)) (fun _ _ _ _ _ => rts_nil) (fun _ _ _ _ _ => (re_op op_add_any (re_var 3) (re_var 11))))
    (rs_cons (rs_par (i := 5) (j := 6) rfl sc__law_tables.nd (ra_cons (re_comp (own := [("_law_title", 12)]) rfl sc__law_tables.nd (ri_any (re_var 4)) (blkOk_by (own := [("_law_title", 12)]) (by kernel_rfl)) (fun _ _ _ _ _ => (rg_nm sc__law_tables.nd)) (fun _ _ _ _ _ => rts_nil) (fun _ _ _ _ _ => (re_lstR ra_nil))) (ra_cons (re_lstR ra_nil) ra_nil)))
    (rs_cons (rs_for PassesOwn.never rfl (ri_range1 rfl b_range (ra_cons (re_fz 9 (re_call G__law_draw (hr.mono (by decide)) rfl g__law_draw F__law_draw.kp B__law_draw .nil (fun _ _ _ => rfl) pass_any (ra_cons (re_var 0) (ra_cons (re_op op_add_any (re_var 2) re_int) ra_nil)))) ra_nil)) (rg_nm sc__law_tables.nd) (rs_cons (rs_set (i := 8) sc__law_tables.nd (re_fz 9 (re_call G__law_draw (hr.mono (by decide)) rfl g__law_draw F__law_draw.kp B__law_draw .nil (fun _ _ _ => rfl) pass_any (ra_cons (re_var 0) (ra_cons (re_cb cb_len rfl b_len (by rfl) (ra_cons (re_var 4) ra_nil)) ra_nil)))))
    (rs_cons (rs_set (i := 9) sc__law_tables.nd (re_sub (ix_any hr) (re_lst (ra_cons (re_var 8) (ra_cons (re_fz 9 (re_call G__law_draw (hr.mono (by decide)) rfl g__law_draw F__law_draw.kp B__law_draw .nil (fun _ _ _ => rfl) pass_any (ra_cons (re_var 0) (ra_cons (re_cb cb_len rfl b_len (by rfl) (ra_cons (re_var 4) ra_nil)) ra_nil)))) ra_nil))) (re_fz 9 (re_call G__law_draw (hr.mono (by decide)) rfl g__law_draw F__law_draw.kp B__law_draw .nil (fun _ _ _ => rfl) pass_any (ra_cons (re_var 0) (ra_cons re_int ra_nil)))) (fun _ _ => rfl)))
    (rs_cons (rs_set (i := 10) sc__law_tables.nd (re_tup (ra_cons (re_sub (ix_any hr) (re_var 4) (re_var 8) (fun _ _ => rfl)) (ra_cons (re_cb cb_len rfl b_len (by rfl) (ra_cons (re_sub (ix_any hr) (re_var 5) (re_var 8) (fun _ _ => rfl)) ra_nil)) (ra_cons (re_sub (ix_any hr) (re_var 4) (re_var 9) (fun _ _ => rfl)) (ra_cons (re_fz 9 (re_call G__law_vector (hr.mono (by decide)) rfl g__law_vector F__law_vector.kp B__law_vector .nil (fun _ _ _ => rfl) pass_any (ra_cons (re_var 0) (ra_cons (re_var 1) (ra_cons (re_var 6) ra_nil))))) ra_nil))))))
    (rs_cons (rs_expr (re_bm PySem.F.plainAttrs_list PySem.F.slot_list_append PySem.F.type_list_append mt_append_e isLst_ty (re_sub (ix_any hr) (re_var 5) (re_var 8) (fun _ _ => rfl)) (ra_cons (re_tup (ra_cons (re_sub (ix_any hr) (re_var 10) re_int (fun _ _ => rfl)) (ra_cons (re_sub (ix_any hr) (re_var 10) re_int (fun _ _ => rfl)) (ra_cons (re_sub (ix_any hr) (re_lst (ra_cons re_int (ra_cons re_int (ra_cons (re_un un_neg_int re_int) (ra_cons (re_un un_neg_int re_int) ra_nil))))) (re_fz 9 (re_call G__law_draw (hr.mono (by decide)) rfl g__law_draw F__law_draw.kp B__law_draw .nil (fun _ _ _ => rfl) pass_any (ra_cons (re_var 0) (ra_cons re_int ra_nil)))) (fun _ _ => rfl)) ra_nil)))) ra_nil)))
    (rs_one (rs_expr (re_bm PySem.F.plainAttrs_list PySem.F.slot_list_append PySem.F.type_list_append mt_append_e isLst_ty (re_var 6) (ra_cons (re_var 10) ra_nil)))))))))
    (rs_one (rs_ret (re_comp (own := [("_law_title", 12), ("_law_some", 13)]) rfl sc__law_tables.nd (ri_zip rfl b_zip (ra_cons (re_var 4) (ra_cons (re_var 5) ra_nil))) (blkOk_by (own := [("_law_title", 12), ("_law_some", 13)]) (by kernel_rfl)) (fun _ _ _ _ _ => (rg_tp rfl (rgs_cons (rg_nm sc__law_tables.nd) (rgs_cons (rg_nm sc__law_tables.nd) rgs_nil)))) (fun _ _ _ _ _ => rts_nil) (fun _ _ _ _ _ => (re_tup (ra_cons (re_var 12) (ra_cons (re_op op_sub_int (re_fz 9 (re_call G__law_draw (hr.mono (by decide)) rfl g__law_draw F__law_draw.kp B__law_draw .nil (fun _ _ _ => rfl) pass_any (ra_cons (re_var 0) (ra_cons re_int ra_nil)))) re_int) (ra_cons (re_var 13) ra_nil))))))))))))
theorem sc__law_drawn : FnScope N__law_drawn (N__law_drawn.take 2) (defScope st__law_drawn) := ⟨rfl, rfl, rfl, by decide +kernel, rfl, by decide +kernel, by decide +kernel⟩
theorem ok__law_drawn {w : World} {K : PySem.W.Frag} {mg : Str → Option Value} {base : Heap} (W : Wd facts defs gets errs K mg base) {fd : FuncData} (F : FunD K "_law_drawn" "_law_drawn" (defArgs st__law_drawn) (defBody st__law_drawn) (defScope st__law_drawn) [] [] (He.fAd K d__law_drawn.at_) fd) :
    FnG prg w K mg base CX0 4 (He.fAd K d__law_drawn.at_) fd (N__law_drawn.take 2) (spOf K ⟨mg, w⟩ 2 fn__law_drawn) := by
  obtain ⟨fd__law_wide, F__law_wide⟩ := W.c.def_ 5 (d := d__law_wide) rfl
  have G__law_wide := ok__law_wide (w := w) W F__law_wide
  have g__law_wide := W.glo 11 (x := "_law_wide") rfl
  have B__law_wide := FunD.bindsN (ps := N__law_wide.take 3) F__law_wide (fun _ _ _ _ _ _ us hl => match us, hl with | [_, _, _], _ => rfl)
  obtain ⟨fd__law_tables, F__law_tables⟩ := W.c.def_ 7 (d := d__law_tables) rfl
  have G__law_tables := ok__law_tables (w := w) W F__law_tables
  have g__law_tables := W.glo 12 (x := "_law_tables") rfl
  have B__law_tables := FunD.bindsN (ps := N__law_tables.take 3) F__law_tables (fun _ _ _ _ _ _ us hl => match us, hl with | [_, _, _], _ => rfl)
  obtain ⟨fd__law_draw, F__law_draw⟩ := W.c.def_ 3 (d := d__law_draw) rfl
  have G__law_draw := ok__law_draw (w := w) W F__law_draw
  have g__law_draw := W.glo 6 (x := "_law_draw") rfl
  have B__law_draw := FunD.bindsN (ps := N__law_draw.take 2) F__law_draw (fun _ _ _ _ _ _ us hl => match us, hl with | [_, _], _ => rfl)
  have b_abs := W.free 4 (x := "abs") rfl
  have b_tuple := W.free 8 (x := "tuple") rfl
  refine fn_ok0 (ms := ms__law_drawn) F sc__law_drawn fun cdv A outer s H E hr => ?_
  unfold ms__law_drawn
  exact (rs_cons (rs_set (i := 2) sc__law_drawn.nd (re_sub (ix_any hr) (re_lst (ra_cons (re_fz 9 (re_call G__law_tables (hr.mono (by decide)) rfl g__law_tables F__law_tables.kp B__law_tables .nil (fun _ _ _ => rfl) pass_any (ra_cons (re_var 0) (ra_cons (re_var 1) (ra_cons re_int ra_nil))))) (ra_cons (re_fz 9 (re_call G__law_wide (hr.mono (by decide)) rfl g__law_wide F__law_wide.kp B__law_wide .nil (fun _ _ _ => rfl) pass_any (ra_cons (re_var 0) (ra_cons (re_var 1) (ra_cons re_int ra_nil))))) ra_nil))) (re_fz 9 (re_call G__law_draw (hr.mono (by decide)) rfl g__law_draw F__law_draw.kp B__law_draw .nil (fun _ _ _ => rfl) pass_any (ra_cons (re_var 0) (ra_cons re_int ra_nil)))) (fun _ _ => rfl)))
    (rs_cons (rs_if (rt_cmp (op_eq_any hr) (re_fz 9 (re_call G__law_draw (hr.mono (by decide)) rfl g__law_draw F__law_draw.kp B__law_draw .nil (fun _ _ _ => rfl) pass_any (ra_cons (re_var 0) (ra_cons re_int ra_nil)))) re_int (by rfl)) (rs_one (rs_ret (re_var 2))) rs_nil)
    (rs_cons (rs_set (i := 3) sc__law_drawn.nd (re_lstR ra_nil))
    (rs_cons (rs_for PassesOwn.never rfl (ri_any (re_var 2)) (rg_tp rfl (rgs_cons (rg_nm sc__law_drawn.nd) (rgs_cons (rg_nm sc__law_drawn.nd) (rgs_cons (rg_nm sc__law_drawn.nd) rgs_nil)))) (rs_one (rs_expr (re_bm PySem.F.plainAttrs_list PySem.F.slot_list_append PySem.F.type_list_append mt_append_e isLst_ty (re_var 3) (ra_cons (re_tup (ra_cons (re_var 4) (ra_cons (re_var 5) (ra_cons (re_comp (own := [("_law_row", 7)]) rfl sc__law_drawn.nd (ri_any (re_var 6)) (blkOk_by (own := [("_law_row", 7)]) (by kernel_rfl)) (fun _ _ _ _ _ => (rg_nm sc__law_drawn.nd)) (fun _ _ _ _ _ => rts_nil) (fun _ _ _ _ _ => (re_tup (ra_cons (re_sub (ix_any hr) (re_var 7) re_int (fun _ _ => rfl)) (ra_cons (re_cty cb_tuple rfl b_tuple (by rfl) (ra_cons (re_comp (own := [("_law_one", 8)]) rfl sc__law_drawn.nd (ri_any (re_sub (ix_any hr) (re_var 7) re_int (fun _ _ => rfl))) (blkOk_by (own := [("_law_one", 8)]) (by kernel_rfl)) (fun _ _ _ _ _ => (rg_nm sc__law_drawn.nd)) (fun _ _ _ _ _ => rts_nil) (fun _ _ _ _ _ => (re_cb cb_abs rfl b_abs (by rfl) (ra_cons (re_var 8) ra_nil)))) ra_nil)) (ra_cons (re_sub (ix_any hr) (re_var 7) re_int (fun _ _ => rfl)) ra_nil)))))) ra_nil)))) ra_nil)))))
    (rs_one (rs_ret (re_var 3)))))))
theorem sc_is_name : FnScope N_is_name (N_is_name.take 1) (defScope st_is_name) := ⟨rfl, rfl, rfl, by decide +kernel, rfl, by decide +kernel, by decide +kernel⟩
theorem ok_is_name {w : World} {K : PySem.W.Frag} {mg : Str → Option Value} {base : Heap} (W : Wd facts defs gets errs K mg base) {fd : FuncData} (F : FunD K "is_name" "is_name" (defArgs st_is_name) (defBody st_is_name) (defScope st_is_name) [] [] (He.fAd K d_is_name.at_) fd) :
    FnG prg w K mg base CX0 1 (He.fAd K d_is_name.at_) fd (N_is_name.take 1) (spOf K ⟨mg, w⟩ 1 fn_is_name) := by
  have b_len := W.free 1 (x := "len") rfl
  obtain ⟨t_MOST_LETTERS, k_MOST_LETTERS⟩ := W.int 17 (x := "MOST_LETTERS") (n := 8) rfl
  obtain ⟨t_LETTERS, k_LETTERS⟩ := W.str 18 (x := "LETTERS") (z := "abcdefghijklmnopqrstuvwxyz") rfl
  have b_all := W.free 19 (x := "all") rfl
  refine fn_ok0 (ms := ms_is_name) F sc_is_name fun cdv A outer s H E hr => ?_
  unfold ms_is_name
  exact (rs_one (rs_ret (re_and (re_chain op_le_int op_le_int re_int (re_cb cb_len rfl b_len (by rfl) (ra_cons (re_var 0) ra_nil)) (re_glo (y := .int 8) (v := .int 8) rfl k_MOST_LETTERS ⟨_, rfl⟩ (fun _ _ _ => rfl))) (re_one (re_cb (cb_all rfl) rfl b_all (by rfl) (ra_cons (re_comp (own := [("sign", 1)]) rfl sc_is_name.nd (ri_any (re_var 0)) (blkOk_by (own := [("sign", 1)]) (by kernel_rfl)) (fun _ _ _ _ _ => (rg_nm sc_is_name.nd)) (fun _ _ _ _ _ => rts_nil) (fun _ _ _ _ _ => (re_cmp (op_in_any hr) (re_var 1) (re_glo (y := .str "abcdefghijklmnopqrstuvwxyz") (v := .str "abcdefghijklmnopqrstuvwxyz") rfl k_LETTERS ⟨_, rfl⟩ (fun _ _ _ => rfl)) (by rfl)))) ra_nil))))))
theorem sc_is_read : FnScope N_is_read (N_is_read.take 2) (defScope st_is_read) := ⟨rfl, rfl, rfl, by decide +kernel, rfl, by decide +kernel, by decide +kernel⟩
theorem ok_is_read {w : World} {K : PySem.W.Frag} {mg : Str → Option Value} {base : Heap} (W : Wd facts defs gets errs K mg base) {fd : FuncData} (F : FunD K "is_read" "is_read" (defArgs st_is_read) (defBody st_is_read) (defScope st_is_read) [] [] (He.fAd K d_is_read.at_) fd) :
    FnG prg w K mg base CX0 2 (He.fAd K d_is_read.at_) fd (N_is_read.take 2) (spOf K ⟨mg, w⟩ 2 fn_is_read) := by
  obtain ⟨fd_is_name, F_is_name⟩ := W.c.def_ 11 (d := d_is_name) rfl
  have G_is_name := ok_is_name (w := w) W F_is_name
  have g_is_name := W.glo 20 (x := "is_name") rfl
  have B_is_name := FunD.bindsN (ps := N_is_name.take 1) F_is_name (fun _ _ _ _ _ _ us hl => match us, hl with | [_], _ => rfl)
  have b_len := W.free 1 (x := "len") rfl
  refine fn_ok0 (ms := ms_is_read) F sc_is_read fun cdv A outer s H E hr => ?_
  unfold ms_is_read
  exact (rs_cons (rs_asg (re_var 0) (rg_tp rfl (rgs_cons (rg_nm sc_is_read.nd) (rgs_cons (rg_nm sc_is_read.nd) (rgs_cons (rg_nm sc_is_read.nd) rgs_nil)))))
    (rs_one (rs_ret (re_and (re_fz 9 (re_call G_is_name (hr.mono (by decide)) rfl g_is_name F_is_name.kp B_is_name .nil (fun _ _ _ => rfl) pass_any (ra_cons (re_var 2) ra_nil))) (re_and (re_cmp (op_eq_any hr) (re_cb cb_len rfl b_len (by rfl) (ra_cons (re_var 3) ra_nil)) (re_var 1) (by rfl)) (re_one (re_cmp (op_ne_any hr) (re_var 4) re_int (by rfl))))))))
theorem sc_check_system : FnScope N_check_system (N_check_system.take 3) (defScope st_check_system) := ⟨rfl, rfl, rfl, by decide +kernel, rfl, by decide +kernel, by decide +kernel⟩
theorem ok_check_system {w : World} {K : PySem.W.Frag} {mg : Str → Option Value} {base : Heap} (W : Wd facts defs gets errs K mg base) {fd : FuncData} (F : FunD K "check_system" "check_system" (defArgs st_check_system) (defBody st_check_system) (defScope st_check_system) [] [] (He.fAd K d_check_system.at_) fd) :
    FnG prg w K mg base CX0 3 (He.fAd K d_check_system.at_) fd (N_check_system.take 3) (spOf K ⟨mg, w⟩ 3 fn_check_system) := by
  obtain ⟨t_MOST_DIMENSIONS, k_MOST_DIMENSIONS⟩ := W.int 14 (x := "MOST_DIMENSIONS") (n := 3) rfl
  have b_len := W.free 1 (x := "len") rfl
  obtain ⟨t_MOST_TABLES, k_MOST_TABLES⟩ := W.int 15 (x := "MOST_TABLES") (n := 6) rfl
  have b_enumerate := W.free 16 (x := "enumerate") rfl
  obtain ⟨fd_is_name, F_is_name⟩ := W.c.def_ 11 (d := d_is_name) rfl
  have G_is_name := ok_is_name (w := w) W F_is_name
  have g_is_name := W.glo 20 (x := "is_name") rfl
  have B_is_name := FunD.bindsN (ps := N_is_name.take 1) F_is_name (fun _ _ _ _ _ _ us hl => match us, hl with | [_], _ => rfl)
  obtain ⟨t_MOST_READS, k_MOST_READS⟩ := W.int 21 (x := "MOST_READS") (n := 12) rfl
  obtain ⟨fd_is_read, F_is_read⟩ := W.c.def_ 12 (d := d_is_read) rfl
  have G_is_read := ok_is_read (w := w) W F_is_read
  have g_is_read := W.glo 22 (x := "is_read") rfl
  have B_is_read := FunD.bindsN (ps := N_is_read.take 2) F_is_read (fun _ _ _ _ _ _ us hl => match us, hl with | [_, _], _ => rfl)
  have b_all := W.free 19 (x := "all") rfl
  refine fn_ok0 (ms := ms_check_system) F sc_check_system fun cdv A outer s H E hr => ?_
  unfold ms_check_system
  exact (rs_cons (rs_if (rt_not (rt_chain op_le_int op_le_int re_int (re_var 0) (re_glo (y := .int 3) (v := .int 3) rfl k_MOST_DIMENSIONS ⟨_, rfl⟩ (fun _ _ _ => rfl)))) (rs_one rs_never) rs_nil)
    (rs_cons (rs_if (rt_not (rt_chain op_le_int op_le_int re_int (re_cb cb_len rfl b_len (by rfl) (ra_cons (re_var 1) ra_nil)) (re_glo (y := .int 6) (v := .int 6) rfl k_MOST_TABLES ⟨_, rfl⟩ (fun _ _ _ => rfl)))) (rs_one rs_never) rs_nil)
    (rs_cons (rs_asg (re_tup (ra_cons re_dnew (ra_cons re_int ra_nil))) (rg_tp rfl (rgs_cons (rg_nm sc_check_system.nd) (rgs_cons (rg_nm sc_check_system.nd) rgs_nil))))
    (rs_cons (rs_for PassesOwn.never rfl (ri_enum rfl b_enumerate (ra_cons (re_var 1) ra_nil)) (rg_tp rfl (rgs_cons (rg_nm sc_check_system.nd) (rgs_cons (rg_tp rfl (rgs_cons (rg_nm sc_check_system.nd) (rgs_cons (rg_nm sc_check_system.nd) (rgs_cons (rg_nm sc_check_system.nd) rgs_nil)))) rgs_nil))) (rs_cons (rs_set (i := 4) sc_check_system.nd (re_op op_add_any (re_var 4) (re_cb cb_len rfl b_len (by rfl) (ra_cons (re_var 8) ra_nil))))
    (rs_cons (rs_set (i := 9) sc_check_system.nd (re_or (re_not (re_fz 9 (re_call G_is_name (hr.mono (by decide)) rfl g_is_name F_is_name.kp B_is_name .nil (fun _ _ _ => rfl) pass_any (ra_cons (re_var 6) ra_nil)))) (re_or (re_cmp (op_in_any hr) (re_var 6) (re_var 3) (by rfl)) (re_one (re_cmp op_gt_int (re_var 4) (re_glo (y := .int 12) (v := .int 12) rfl k_MOST_READS ⟨_, rfl⟩ (fun _ _ _ => rfl)) (by rfl))))))
    (rs_cons (rs_if (PW.pt (rw_or (rt_tru (re_var 9)) (rw_or1 (rt_not (rt_tru (re_cb (cb_all rfl) rfl b_all (by rfl) (ra_cons (re_comp (own := [("read", 13)]) rfl sc_check_system.nd (ri_any (re_var 8)) (blkOk_by (own := [("read", 13)]) (by kernel_rfl)) (fun _ _ _ _ _ => (rg_nm sc_check_system.nd)) (fun _ _ _ _ _ => rts_nil) (fun _ _ _ _ _ => (re_fz 9 (re_call G_is_read (hr.mono (by decide)) rfl g_is_read F_is_read.kp B_is_read .nil (fun _ _ _ => rfl) pass_any (ra_cons (re_var 13) (ra_cons (re_var 0) ra_nil)))))) ra_nil))))))) (rs_one rs_never) rs_nil)
    (rs_one (rs_dput hr (re_var 3) (re_var 6) re_bl))))))
    (rs_cons (rs_for PassesOwn.never rfl (ri_enum rfl b_enumerate (ra_cons (re_var 1) ra_nil)) (rg_tp rfl (rgs_cons (rg_nm sc_check_system.nd) (rgs_cons (rg_tp rfl (rgs_cons (rg_nm sc_check_system.nd) (rgs_cons (rg_nm sc_check_system.nd) (rgs_cons (rg_nm sc_check_system.nd) rgs_nil)))) rgs_nil))) (rs_one (rs_if (rt_not (rt_tru (re_cb (cb_all rfl) rfl b_all (by rfl) (ra_cons (re_comp (own := [("table", 10), ("vector", 11), ("factor", 12)]) rfl sc_check_system.nd (ri_any (re_var 8)) (blkOk_by (own := [("table", 10), ("vector", 11), ("factor", 12)]) (by kernel_rfl)) (fun _ _ _ _ _ => (rg_tp rfl (rgs_cons (rg_nm sc_check_system.nd) (rgs_cons (rg_nm sc_check_system.nd) (rgs_cons (rg_nm sc_check_system.nd) rgs_nil))))) (fun _ _ _ _ _ => rts_nil) (fun _ _ _ _ _ => (re_cmp (op_in_any hr) (re_var 10) (re_var 3) (by rfl)))) ra_nil)))) (rs_one rs_never) rs_nil)))
    (rs_one (rs_if (rt_cmp op_lt_int (re_var 2) re_int (by rfl)) (rs_one rs_never) rs_nil)))))))
theorem sc_System_init : FnScope N_System_init (N_System_init.take 4) (defScope st_System_init) := ⟨rfl, rfl, rfl, by decide +kernel, rfl, by decide +kernel, by decide +kernel⟩
theorem ok_System_init {w : World} {K : PySem.W.Frag} {mg : Str → Option Value} {base : Heap} (W : Wd facts defs gets errs K mg base) {fd : FuncData} (F : FunD K "__init__" "System.__init__" (defArgs st_System_init) (defBody st_System_init) (defScope st_System_init) [(.int 1000003)] [] (He.fAd K d_System_init.at_) fd) :
    FnG prg w K mg base CX0 4 (He.fAd K d_System_init.at_) fd (N_System_init.take 4) (spOf K ⟨mg, w⟩ 4 fn_System_init) := by
  obtain ⟨fd_check_system, F_check_system⟩ := W.c.def_ 10 (d := d_check_system) rfl
  have G_check_system := ok_check_system (w := w) W F_check_system
  have g_check_system := W.glo 23 (x := "check_system") rfl
  have B_check_system := FunD.bindsN (ps := N_check_system.take 3) F_check_system (fun _ _ _ _ _ _ us hl => match us, hl with | [_, _, _], _ => rfl)
  have g_System := W.glo 24 (x := "System") rfl
  have c_System := W.cls 25 (x := "System") rfl
  have n_System_dimension_count := W.noat 26 (x := "System") (f := "dimension_count") rfl
  have n_System_kept_modulus := W.noat 27 (x := "System") (f := "kept_modulus") rfl
  have n_System_kept_tables := W.noat 28 (x := "System") (f := "kept_tables") rfl
  have b_sorted := W.free 29 (x := "sorted") rfl
  have b_tuple := W.free 8 (x := "tuple") rfl
  have n_System_named_reads := W.noat 30 (x := "System") (f := "named_reads") rfl
  have b_range := W.free 0 (x := "range") rfl
  have b_len := W.free 1 (x := "len") rfl
  refine fn_ok0L (ms := ms_System_init) (at_ := d_System_init.at_) F sc_System_init fun A outer s H E hr => ?_
  unfold ms_System_init
  exact (rs_cons (rs_expr (re_fz 9 (re_call G_check_system (hr.mono (by decide)) rfl g_check_system F_check_system.kp B_check_system .nil (fun _ _ _ => rfl) pass_any (ra_cons (re_var 1) (ra_cons (re_var 2) (ra_cons (re_var 3) ra_nil))))))
    (rs_cons (rs_fld g_System c_System n_System_dimension_count (re_var 0) (re_var 1))
    (rs_cons (rs_fld g_System c_System n_System_kept_modulus (re_var 0) (re_var 3))
    (rs_cons (rs_fld g_System c_System n_System_kept_tables (re_var 0) re_dnew)
    (rs_cons (rs_for PassesOwn.never rfl (ri_any (re_sortK0 rfl b_sorted (re_var 2) hr (W.tb ("System", some "__init__") (List.mem_of_getElem? (i := 0) (by rfl))) rfl (List.mem_of_getElem? (i := 0) (by rfl)) (tab_uniq W (i := 0) (by rfl)) rfl (by intro y hy e; exact absurd e ((by decide +kernel : ∀ y ∈ [(("table" : Str), NameKind.local)], y.2 ≠ NameKind.free) y hy)) rfl rfl rfl (by intro y hy; exact (by decide +kernel : ∀ y ∈ [(("table" : Str), NameKind.local)], y.2 ≠ NameKind.cell) y hy) rfl (by decide) (fun _ _ _ _ _ _ => rfl))) (rg_tp rfl (rgs_cons (rg_nm sc_System_init.nd) (rgs_cons (rg_nm sc_System_init.nd) (rgs_cons (rg_nm sc_System_init.nd) rgs_nil)))) (rs_one (rs_dput hr (re_fld g_System c_System n_System_kept_tables (re_var 0)) (re_var 4) (re_tup (ra_cons (re_var 5) (ra_cons (re_cty cb_tuple rfl b_tuple (by rfl) (ra_cons (re_var 6) ra_nil)) ra_nil))))))
    (rs_fzF (i := 0) (cn := "System") (f := "kept_tables") (n := 9) (rs_one (rs_fld g_System c_System n_System_named_reads (re_var 0) (re_cty cb_tuple rfl b_tuple (by rfl) (ra_cons (re_comp2 (own := [("name", 4), ("constant", 5), ("reads", 6), ("number", 7)]) (vs1 := [7]) rfl sc_System_init.nd (ri_items (re_fld g_System c_System n_System_kept_tables (re_var 0))) (blkOk_by (own := [("name", 4), ("constant", 5), ("reads", 6), ("number", 7)]) (by kernel_rfl)) (fun _ _ _ _ _ => (rg_tp rfl (rgs_cons (rg_nm sc_System_init.nd) (rgs_cons (rg_tp rfl (rgs_cons (rg_nm sc_System_init.nd) (rgs_cons (rg_nm sc_System_init.nd) rgs_nil))) rgs_nil)))) (fun _ _ _ _ _ => rts_nil) (fun _ _ _ _ _ => (ri_range1 rfl b_range (ra_cons (re_cb cb_len rfl b_len (by rfl) (ra_cons (re_var 6) ra_nil)) ra_nil))) (fun _ _ _ _ _ => (rg_nm sc_System_init.nd)) (fun _ _ _ _ _ => rts_nil) (fun _ _ _ _ _ => (re_tup (ra_cons (re_var 4) (ra_cons (re_var 7) ra_nil))))) ra_nil))))))))))
theorem sc__law_made : FnScope N__law_made (N__law_made.take 2) (defScope st__law_made) := ⟨rfl, rfl, rfl, by decide +kernel, rfl, by decide +kernel, by decide +kernel⟩
theorem ok__law_made {w : World} {K : PySem.W.Frag} {mg : Str → Option Value} {base : Heap} (W : Wd facts defs gets errs K mg base) {fd : FuncData} (F : FunD K "_law_made" "_law_made" (defArgs st__law_made) (defBody st__law_made) (defScope st__law_made) [] [] (He.fAd K d__law_made.at_) fd) :
    FnG prg w K mg base CX0 6 (He.fAd K d__law_made.at_) fd (N__law_made.take 2) (spOf K ⟨mg, w⟩ 2 fn__law_made) := by
  obtain ⟨fd_System_init, F_System_init⟩ := W.c.def_ 9 (d := d_System_init) rfl
  have G_System_init := ok_System_init (w := w) W F_System_init
  have g_System := W.glo 24 (x := "System") rfl
  have mk_System := W.mkr 31 (x := "System") rfl
  obtain ⟨ds_B_System_init_4, dr_B_System_init_4, B_System_init_4⟩ := FunD.binds1 (ps := N_System_init.take 4) F_System_init 4 1 (by simp [d_System_init, He.DefD.dvs]) rfl (fun _ _ _ _ _ _ _ us its h1 h2 => match us, its, h1, h2 with | [_, _, _, _], [_], _, _ => ⟨_, rfl, rfl⟩)
  refine fn_ok0 (ms := ms__law_made) F sc__law_made fun cdv A outer s H E hr => ?_
  unfold ms__law_made
  exact (rs_one (rs_ret (re_fz 9 (re_make mk_System g_System G_System_init (hr.mono (by decide)) rfl B_System_init_4 dr_B_System_init_4 (fun _ _ _ => rfl) pass_any (ra_cons (re_var 0) (ra_cons (re_var 1) (ra_cons re_int ra_nil)))))))
theorem sc_System_names : FnScope N_System_names (N_System_names.take 1) (defScope st_System_names) := ⟨rfl, rfl, rfl, by decide +kernel, rfl, by decide +kernel, by decide +kernel⟩
theorem ok_System_names {w : World} {K : PySem.W.Frag} {mg : Str → Option Value} {base : Heap} (W : Wd facts defs gets errs K mg base) {fd : FuncData} (F : FunD K "names" "System.names" (defArgs st_System_names) (defBody st_System_names) (defScope st_System_names) [] [] (geA K "System" "names") fd) :
    FnG prg w K mg base CX0 1 (geA K "System" "names") fd (N_System_names.take 1) (spOf K ⟨mg, w⟩ 1 fn_System_names) := by
  have g_System := W.glo 24 (x := "System") rfl
  have c_System := W.cls 25 (x := "System") rfl
  have n_System_kept_tables := W.noat 28 (x := "System") (f := "kept_tables") rfl
  have b_list := W.free 33 (x := "list") rfl
  refine fn_ok0 (ms := ms_System_names) F sc_System_names fun cdv A outer s H E hr => ?_
  unfold ms_System_names
  exact (rs_one (rs_ret (re_cty (cb_listD rfl) rfl b_list (by rfl) (ra_cons (re_fld g_System c_System n_System_kept_tables (re_var 0)) ra_nil))))
theorem sc_check_table : FnScope N_check_table (N_check_table.take 2) (defScope st_check_table) := ⟨rfl, rfl, rfl, by decide +kernel, rfl, by decide +kernel, by decide +kernel⟩
theorem ok_check_table {w : World} {K : PySem.W.Frag} {mg : Str → Option Value} {base : Heap} (W : Wd facts defs gets errs K mg base) {fd : FuncData} (F : FunD K "check_table" "check_table" (defArgs st_check_table) (defBody st_check_table) (defScope st_check_table) [] [] (He.fAd K d_check_table.at_) fd) :
    FnG prg w K mg base CX0 1 (He.fAd K d_check_table.at_) fd (N_check_table.take 2) (spOf K ⟨mg, w⟩ 2 fn_check_table) := by
  have g_System := W.glo 24 (x := "System") rfl
  have c_System := W.cls 25 (x := "System") rfl
  have n_System_kept_tables := W.noat 28 (x := "System") (f := "kept_tables") rfl
  refine fn_ok0 (ms := ms_check_table) F sc_check_table fun cdv A outer s H E hr => ?_
  unfold ms_check_table
  exact (rs_one (rs_if (rt_cmp (op_notin_any hr) (re_var 1) (re_fld g_System c_System n_System_kept_tables (re_var 0)) (by rfl)) (rs_one rs_never) rs_nil))
theorem sc_System_reads : FnScope N_System_reads (N_System_reads.take 2) (defScope st_System_reads) := ⟨rfl, rfl, rfl, by decide +kernel, rfl, by decide +kernel, by decide +kernel⟩
theorem ok_System_reads {w : World} {K : PySem.W.Frag} {mg : Str → Option Value} {base : Heap} (W : Wd facts defs gets errs K mg base) {fd : FuncData} (F : FunD K "reads" "System.reads" (defArgs st_System_reads) (defBody st_System_reads) (defScope st_System_reads) [] [] (He.fAd K d_System_reads.at_) fd) :
    FnG prg w K mg base CX0 2 (He.fAd K d_System_reads.at_) fd (N_System_reads.take 2) (spOf K ⟨mg, w⟩ 2 fn_System_reads) := by
  obtain ⟨fd_check_table, F_check_table⟩ := W.c.def_ 15 (d := d_check_table) rfl
  have G_check_table := ok_check_table (w := w) W F_check_table
  have g_check_table := W.glo 34 (x := "check_table") rfl
  have B_check_table := FunD.bindsN (ps := N_check_table.take 2) F_check_table (fun _ _ _ _ _ _ us hl => match us, hl with | [_, _], _ => rfl)
  have g_System := W.glo 24 (x := "System") rfl
  have c_System := W.cls 25 (x := "System") rfl
  have n_System_kept_tables := W.noat 28 (x := "System") (f := "kept_tables") rfl
  have b_list := W.free 33 (x := "list") rfl
  refine fn_ok0 (ms := ms_System_reads) F sc_System_reads fun cdv A outer s H E hr => ?_
  unfold ms_System_reads
  exact (rs_cons (rs_expr (re_fz 9 (re_call G_check_table (hr.mono (by decide)) rfl g_check_table F_check_table.kp B_check_table .nil (fun _ _ _ => rfl) pass_any (ra_cons (re_var 0) (ra_cons (re_var 1) ra_nil)))))
    (rs_one (rs_ret (re_cty cb_list rfl b_list (by rfl) (ra_cons (re_sub (ix_any hr) (re_sub (ix_any hr) (re_fld g_System c_System n_System_kept_tables (re_var 0)) (re_var 1) (fun _ _ => rfl)) re_int (fun _ _ => rfl)) ra_nil)))))
theorem sc_System_constant : FnScope N_System_constant (N_System_constant.take 2) (defScope st_System_constant) := ⟨rfl, rfl, rfl, by decide +kernel, rfl, by decide +kernel, by decide +kernel⟩
theorem ok_System_constant {w : World} {K : PySem.W.Frag} {mg : Str → Option Value} {base : Heap} (W : Wd facts defs gets errs K mg base) {fd : FuncData} (F : FunD K "constant" "System.constant" (defArgs st_System_constant) (defBody st_System_constant) (defScope st_System_constant) [] [] (He.fAd K d_System_constant.at_) fd) :
    FnG prg w K mg base CX0 2 (He.fAd K d_System_constant.at_) fd (N_System_constant.take 2) (spOf K ⟨mg, w⟩ 2 fn_System_constant) := by
  obtain ⟨fd_check_table, F_check_table⟩ := W.c.def_ 15 (d := d_check_table) rfl
  have G_check_table := ok_check_table (w := w) W F_check_table
  have g_check_table := W.glo 34 (x := "check_table") rfl
  have B_check_table := FunD.bindsN (ps := N_check_table.take 2) F_check_table (fun _ _ _ _ _ _ us hl => match us, hl with | [_, _], _ => rfl)
  have g_System := W.glo 24 (x := "System") rfl
  have c_System := W.cls 25 (x := "System") rfl
  have n_System_kept_tables := W.noat 28 (x := "System") (f := "kept_tables") rfl
  refine fn_ok0 (ms := ms_System_constant) F sc_System_constant fun cdv A outer s H E hr => ?_
  unfold ms_System_constant
  exact (rs_cons (rs_expr (re_fz 9 (re_call G_check_table (hr.mono (by decide)) rfl g_check_table F_check_table.kp B_check_table .nil (fun _ _ _ => rfl) pass_any (ra_cons (re_var 0) (ra_cons (re_var 1) ra_nil)))))
    (rs_one (rs_ret (re_sub (ix_any hr) (re_sub (ix_any hr) (re_fld g_System c_System n_System_kept_tables (re_var 0)) (re_var 1) (fun _ _ => rfl)) re_int (fun _ _ => rfl)))))
theorem sc_System_modulus : FnScope N_System_modulus (N_System_modulus.take 1) (defScope st_System_modulus) := ⟨rfl, rfl, rfl, by decide +kernel, rfl, by decide +kernel, by decide +kernel⟩
theorem ok_System_modulus {w : World} {K : PySem.W.Frag} {mg : Str → Option Value} {base : Heap} (W : Wd facts defs gets errs K mg base) {fd : FuncData} (F : FunD K "modulus" "System.modulus" (defArgs st_System_modulus) (defBody st_System_modulus) (defScope st_System_modulus) [] [] (geA K "System" "modulus") fd) :
    FnG prg w K mg base CX0 1 (geA K "System" "modulus") fd (N_System_modulus.take 1) (spOf K ⟨mg, w⟩ 1 fn_System_modulus) := by
  have g_System := W.glo 24 (x := "System") rfl
  have c_System := W.cls 25 (x := "System") rfl
  have n_System_kept_modulus := W.noat 27 (x := "System") (f := "kept_modulus") rfl
  refine fn_ok0 (ms := ms_System_modulus) F sc_System_modulus fun cdv A outer s H E hr => ?_
  unfold ms_System_modulus
  exact (rs_one (rs_ret (re_fld g_System c_System n_System_kept_modulus (re_var 0))))
theorem sc_shifted : FnScope N_shifted (N_shifted.take 2) (defScope st_shifted) := ⟨rfl, rfl, rfl, by decide +kernel, rfl, by decide +kernel, by decide +kernel⟩
theorem ok_shifted {w : World} {K : PySem.W.Frag} {mg : Str → Option Value} {base : Heap} (W : Wd facts defs gets errs K mg base) {fd : FuncData} (F : FunD K "shifted" "shifted" (defArgs st_shifted) (defBody st_shifted) (defScope st_shifted) [] [] (He.fAd K d_shifted.at_) fd) :
    FnG prg w K mg base CX0 6 (He.fAd K d_shifted.at_) fd (N_shifted.take 2) (spOf K ⟨mg, w⟩ 2 fn_shifted) := by
  have g_System := W.glo 24 (x := "System") rfl
  have c_System := W.cls 25 (x := "System") rfl
  have n_System_dimension_count := W.noat 26 (x := "System") (f := "dimension_count") rfl
  obtain ⟨fd_System_names, F_System_names⟩ := (W.get 0 (d := p_System_names) rfl).2
  have G_System_names := ok_System_names (w := w) W F_System_names
  have B_System_names := FunD.bindsN (ps := N_System_names.take 1) F_System_names (fun _ _ _ _ _ _ us hl => match us, hl with | [_], _ => rfl)
  have P_System_names := (W.get 0 (d := p_System_names) rfl).1
  have b_len := W.free 1 (x := "len") rfl
  have b_sorted := W.free 29 (x := "sorted") rfl
  obtain ⟨fd_System_reads, F_System_reads⟩ := W.c.def_ 14 (d := d_System_reads) rfl
  have G_System_reads := ok_System_reads (w := w) W F_System_reads
  have B_System_reads := FunD.bindsN (ps := N_System_reads.take 2) F_System_reads (fun _ _ _ _ _ _ us hl => match us, hl with | [_, _], _ => rfl)
  have M_System_reads := W.meth 35 (x := "System") (f := "reads") rfl
  have b_range := W.free 0 (x := "range") rfl
  have b_tuple := W.free 8 (x := "tuple") rfl
  obtain ⟨fd_System_constant, F_System_constant⟩ := W.c.def_ 16 (d := d_System_constant) rfl
  have G_System_constant := ok_System_constant (w := w) W F_System_constant
  have B_System_constant := FunD.bindsN (ps := N_System_constant.take 2) F_System_constant (fun _ _ _ _ _ _ us hl => match us, hl with | [_, _], _ => rfl)
  have M_System_constant := W.meth 36 (x := "System") (f := "constant") rfl
  obtain ⟨fd_System_init, F_System_init⟩ := W.c.def_ 9 (d := d_System_init) rfl
  have G_System_init := ok_System_init (w := w) W F_System_init
  have mk_System := W.mkr 31 (x := "System") rfl
  obtain ⟨fd_System_modulus, F_System_modulus⟩ := (W.get 1 (d := p_System_modulus) rfl).2
  have G_System_modulus := ok_System_modulus (w := w) W F_System_modulus
  have B_System_modulus := FunD.bindsN (ps := N_System_modulus.take 1) F_System_modulus (fun _ _ _ _ _ _ us hl => match us, hl with | [_], _ => rfl)
  have P_System_modulus := (W.get 1 (d := p_System_modulus) rfl).1
  obtain ⟨ds_B_System_init_4, dr_B_System_init_4, B_System_init_4⟩ := FunD.binds1 (ps := N_System_init.take 4) F_System_init 4 1 (by simp [d_System_init, He.DefD.dvs]) rfl (fun _ _ _ _ _ _ _ us its h1 h2 => match us, its, h1, h2 with | [_, _, _, _], [_], _, _ => ⟨_, rfl, rfl⟩)
  refine fn_ok0 (ms := ms_shifted) F sc_shifted fun cdv A outer s H E hr => ?_
  unfold ms_shifted
  exact (rs_cons (rs_set (i := 2) sc_shifted.nd (re_fld g_System c_System n_System_dimension_count (re_var 0)))
    (rs_cons (rs_for PassesOwn.never rfl (ri_any (re_fz 9 (re_prop g_System c_System (re_var 0) P_System_names G_System_names (hr.mono (by decide)) B_System_names .nil (fun _ _ _ => rfl) pass_any))) (rg_nm sc_shifted.nd) (rs_one (rs_if (PW.pt (rw_or (rt_cmp (op_notin_any hr) (re_var 3) (re_var 1) (by rfl)) (rw_or1 (rt_cmp (op_ne_any hr) (re_cb cb_len rfl b_len (by rfl) (ra_cons (re_sub (ix_any hr) (re_var 1) (re_var 3) (fun _ _ => rfl)) ra_nil)) (re_var 2) (by rfl))))) (rs_one rs_never) rs_nil)))
    (rs_cons (rs_for PassesOwn.never rfl (ri_any (re_cb (cb_sortD rfl) rfl b_sorted (by rfl) (ra_cons (re_var 1) ra_nil))) (rg_nm sc_shifted.nd) (rs_one (rs_if (rt_cmp (op_notin_any hr) (re_var 3) (re_fz 9 (re_prop g_System c_System (re_var 0) P_System_names G_System_names (hr.mono (by decide)) B_System_names .nil (fun _ _ _ => rfl) pass_any)) (by rfl)) (rs_one rs_never) rs_nil)))
    (rs_cons (rs_set (i := 4) sc_shifted.nd (re_lstR ra_nil))
    (rs_cons (rs_for PassesOwn.never rfl (ri_any (re_fz 9 (re_prop g_System c_System (re_var 0) P_System_names G_System_names (hr.mono (by decide)) B_System_names .nil (fun _ _ _ => rfl) pass_any))) (rg_nm sc_shifted.nd) (rs_cons (rs_set (i := 5) sc_shifted.nd (re_lstR ra_nil))
    (rs_cons (rs_for PassesOwn.never rfl (ri_any (re_fz 9 (re_meth g_System (re_var 0) c_System M_System_reads G_System_reads (hr.mono (by decide)) B_System_reads .nil (fun _ _ _ => rfl) pass_any (ra_cons (re_var 3) ra_nil)))) (rg_tp rfl (rgs_cons (rg_nm sc_shifted.nd) (rgs_cons (rg_nm sc_shifted.nd) (rgs_cons (rg_nm sc_shifted.nd) rgs_nil)))) (rs_cons (rs_setComp (own := [("axis", 10)]) rfl sc_shifted.nd (sw_true rfl rfl rfl rfl) (ri_range1 rfl b_range (ra_cons (re_var 2) ra_nil)) (blkOk_by (own := [("axis", 10)]) (by kernel_rfl)) (fun _ _ _ _ _ => (rg_nm sc_shifted.nd)) (fun _ _ _ _ _ => rts_nil) (fun _ _ _ _ _ => (re_op op_add_any (re_op op_sub_int (re_sub (ix_any hr) (re_var 7) (re_var 10) (fun _ _ => rfl)) (re_sub (ix_any hr) (re_sub (ix_any hr) (re_var 1) (re_var 3) (fun _ _ => rfl)) (re_var 10) (fun _ _ => rfl))) (re_sub (ix_any hr) (re_sub (ix_any hr) (re_var 1) (re_var 6) (fun _ _ => rfl)) (re_var 10) (fun _ _ => rfl)))))
    (rs_one (rs_expr (re_bm PySem.F.plainAttrs_list PySem.F.slot_list_append PySem.F.type_list_append mt_append_e isLst_ty (re_var 5) (ra_cons (re_tup (ra_cons (re_var 6) (ra_cons (re_cty cb_tuple rfl b_tuple (by rfl) (ra_cons (re_var 9) ra_nil)) (ra_cons (re_var 8) ra_nil)))) ra_nil))))))
    (rs_fzV (i := 5) (rs_one (rs_expr (re_bm PySem.F.plainAttrs_list PySem.F.slot_list_append PySem.F.type_list_append mt_append_e isLst_ty (re_var 4) (ra_cons (re_tup (ra_cons (re_var 3) (ra_cons (re_fz 9 (re_meth g_System (re_var 0) c_System M_System_constant G_System_constant (hr.mono (by decide)) B_System_constant .nil (fun _ _ _ => rfl) pass_any (ra_cons (re_var 3) ra_nil))) (ra_cons (re_var 5) ra_nil)))) ra_nil))))))))
    (rs_fzV (i := 4) (rs_one (rs_ret (re_fz 9 (re_make mk_System g_System G_System_init (hr.mono (by decide)) rfl B_System_init_4 dr_B_System_init_4 (fun _ _ _ => rfl) pass_any (ra_cons (re_var 2) (ra_cons (re_var 4) (ra_cons (re_fz 9 (re_prop g_System c_System (re_var 0) P_System_modulus G_System_modulus (hr.mono (by decide)) B_System_modulus .nil (fun _ _ _ => rfl) pass_any)) ra_nil)))))))))))))
theorem sc__law_shift : FnScope N__law_shift (N__law_shift.take 3) (defScope st__law_shift) := ⟨rfl, rfl, rfl, by decide +kernel, rfl, by decide +kernel, by decide +kernel⟩
theorem ok__law_shift {w : World} {K : PySem.W.Frag} {mg : Str → Option Value} {base : Heap} (W : Wd facts defs gets errs K mg base) {fd : FuncData} (F : FunD K "_law_shift" "_law_shift" (defArgs st__law_shift) (defBody st__law_shift) (defScope st__law_shift) [] [] (He.fAd K d__law_shift.at_) fd) :
    FnG prg w K mg base CX0 2 (He.fAd K d__law_shift.at_) fd (N__law_shift.take 3) (spOf K ⟨mg, w⟩ 3 fn__law_shift) := by
  have b_range := W.free 0 (x := "range") rfl
  obtain ⟨fd__law_draw, F__law_draw⟩ := W.c.def_ 3 (d := d__law_draw) rfl
  have G__law_draw := ok__law_draw (w := w) W F__law_draw
  have g__law_draw := W.glo 6 (x := "_law_draw") rfl
  have B__law_draw := FunD.bindsN (ps := N__law_draw.take 2) F__law_draw (fun _ _ _ _ _ _ us hl => match us, hl with | [_, _], _ => rfl)
  have b_tuple := W.free 8 (x := "tuple") rfl
  refine fn_ok0 (ms := ms__law_shift) F sc__law_shift fun cdv A outer s H E hr => ?_
  unfold ms__law_shift
  exact (rs_cons (rs_set (i := 3) sc__law_shift.nd re_dnew)
    (rs_cons (rs_for PassesOwn.never rfl (ri_any (re_var 1)) (rg_nm sc__law_shift.nd) (rs_one (rs_dput hr (re_var 3) (re_var 4) (re_cty cb_tuple rfl b_tuple (by rfl) (ra_cons (re_comp (own := [("_law_axis", 5)]) rfl sc__law_shift.nd (ri_range1 rfl b_range (ra_cons (re_var 2) ra_nil)) (blkOk_by (own := [("_law_axis", 5)]) (by kernel_rfl)) (fun _ _ _ _ _ => (rg_nm sc__law_shift.nd)) (fun _ _ _ _ _ => rts_nil) (fun _ _ _ _ _ => (re_op op_sub_int (re_fz 9 (re_call G__law_draw (hr.mono (by decide)) rfl g__law_draw F__law_draw.kp B__law_draw .nil (fun _ _ _ => rfl) pass_any (ra_cons (re_var 0) (ra_cons re_int ra_nil)))) re_int))) ra_nil)))))
    (rs_one (rs_ret (re_var 3)))))
theorem sc__law_cycles : FnScope N__law_cycles (N__law_cycles.take 1) (defScope st__law_cycles) := ⟨rfl, rfl, rfl, by decide +kernel, rfl, by decide +kernel, by decide +kernel⟩
theorem ok__law_cycles {w : World} {K : PySem.W.Frag} {mg : Str → Option Value} {base : Heap} (W : Wd facts defs gets errs K mg base) {fd : FuncData} (F : FunD K "_law_cycles" "_law_cycles" (defArgs st__law_cycles) (defBody st__law_cycles) (defScope st__law_cycles) [] [] (He.fAd K d__law_cycles.at_) fd) :
    FnG prg w K mg base CX0 1 (He.fAd K d__law_cycles.at_) fd (N__law_cycles.take 1) (spOf K ⟨mg, w⟩ 1 fn__law_cycles) := by
  have b_sorted := W.free 29 (x := "sorted") rfl
  have b_set := W.free 39 (x := "set") rfl
  refine fn_ok0 (ms := ms__law_cycles) F sc__law_cycles fun cdv A outer s H E hr => ?_
  unfold ms__law_cycles
  exact (rs_cons (rs_set (i := 1) sc__law_cycles.nd (re_lstR ra_nil))
    (rs_cons (rs_for PassesOwn.never rfl (ri_any (re_sortSet rfl rfl b_sorted rfl b_set (re_comp (own := [("_law_row", 6)]) rfl sc__law_cycles.nd (ri_any (re_var 0)) (blkOk_by (own := [("_law_row", 6)]) (by kernel_rfl)) (fun _ _ _ _ _ => (rg_nm sc__law_cycles.nd)) (fun _ _ _ _ _ => rts_nil) (fun _ _ _ _ _ => (re_sub (ix_any hr) (re_var 6) re_int (fun _ _ => rfl)))))) (rg_nm sc__law_cycles.nd) (rs_cons (rs_setCompR (own := [("_law_row", 6)]) rfl sc__law_cycles.nd (sw_true rfl rfl rfl rfl) (ri_any (re_var 0)) (blkOk_by (own := [("_law_row", 6)]) (by kernel_rfl)) (fun _ _ _ _ _ => (rg_nm sc__law_cycles.nd)) (fun _ _ _ _ _ => (rts_one (rt_cmp (op_eq_any hr) (re_sub (ix_any hr) (re_var 6) re_int (fun _ _ => rfl)) (re_var 2) (by rfl)))) (fun _ _ _ _ _ => (re_lst (ra_cons (re_var 6) ra_nil))))
    (rs_one (rs_while PassesOwn.never (rt_cmp (op_ne_any hr) (re_var 3) (re_lst ra_nil) (by rfl)) (rs_cons (rs_set (i := 4) sc__law_cycles.nd (re_bm0 PySem.F.plainAttrs_list PySem.F.slot_list_pop PySem.F.type_list_pop mt_pop_e isLst_ty (re_var 3)))
    (rs_cons (rs_set (i := 5) sc__law_cycles.nd (re_sub (ix_any hr) (re_sub (ix_any hr) (re_var 4) (re_un un_neg_int re_int) (fun _ _ => rfl)) re_int (fun _ _ => rfl)))
    (rs_one (rs_if (rt_cmp (op_eq_any hr) (re_var 5) (re_var 2) (by rfl)) (rs_one (rs_expr (re_bm PySem.F.plainAttrs_list PySem.F.slot_list_append PySem.F.type_list_append mt_append_e isLst_ty (re_var 1) (ra_cons (re_var 4) ra_nil)))) (rs_one (rs_if (PW.pt (rw_and (rt_cmp op_gtS (re_var 5) (re_var 2) (by rfl)) (rw_and1 (rt_cmp (op_notin_any hr) (re_var 5) (re_comp (own := [("_law_row", 6)]) rfl sc__law_cycles.nd (ri_any (re_var 4)) (blkOk_by (own := [("_law_row", 6)]) (by kernel_rfl)) (fun _ _ _ _ _ => (rg_nm sc__law_cycles.nd)) (fun _ _ _ _ _ => rts_nil) (fun _ _ _ _ _ => (re_sub (ix_any hr) (re_var 6) re_int (fun _ _ => rfl)))) (by rfl))))) (rs_one (rs_expr (re_bm PySem.F.plainAttrs_list PySem.F.slot_list_extend PySem.F.type_list_extend mt_extend_e isLst_ty (re_var 3) (ra_cons (re_comp (own := [("_law_row", 6)]) rfl sc__law_cycles.nd (ri_any (re_var 0)) (blkOk_by (own := [("_law_row", 6)]) (by kernel_rfl)) (fun _ _ _ _ _ => (rg_nm sc__law_cycles.nd)) (fun _ _ _ _ _ => (rts_one (rt_cmp (op_eq_any hr) (re_sub (ix_any hr) (re_var 6) re_int (fun _ _ => rfl)) (re_var 5) (by rfl)))) (fun _ _ _ _ _ => (re_op op_add_any (re_var 4) (re_lst (ra_cons (re_var 6) ra_nil))))) ra_nil)))) rs_nil))))))))))
    (rs_one (rs_ret (re_var 1)))))
theorem sc__law_total : FnScope N__law_total (N__law_total.take 2) (defScope st__law_total) := ⟨rfl, rfl, rfl, by decide +kernel, rfl, by decide +kernel, by decide +kernel⟩
theorem ok__law_total {w : World} {K : PySem.W.Frag} {mg : Str → Option Value} {base : Heap} (W : Wd facts defs gets errs K mg base) {fd : FuncData} (F : FunD K "_law_total" "_law_total" (defArgs st__law_total) (defBody st__law_total) (defScope st__law_total) [] [] (He.fAd K d__law_total.at_) fd) :
    FnG prg w K mg base CX0 1 (He.fAd K d__law_total.at_) fd (N__law_total.take 2) (spOf K ⟨mg, w⟩ 2 fn__law_total) := by
  have b_range := W.free 0 (x := "range") rfl
  have b_sum := W.free 41 (x := "sum") rfl
  have b_tuple := W.free 8 (x := "tuple") rfl
  refine fn_ok0 (ms := ms__law_total) F sc__law_total fun cdv A outer s H E hr => ?_
  unfold ms__law_total
  exact (rs_one (rs_ret (re_cty cb_tuple rfl b_tuple (by rfl) (ra_cons (re_comp (own := [("_law_axis", 2)]) rfl sc__law_total.nd (ri_range1 rfl b_range (ra_cons (re_var 1) ra_nil)) (blkOk_by (own := [("_law_axis", 2)]) (by kernel_rfl)) (fun _ _ _ _ _ => (rg_nm sc__law_total.nd)) (fun _ _ _ _ _ => rts_nil) (fun _ _ _ _ _ => (re_cb (cb_sum rfl) rfl b_sum (by rfl) (ra_cons (re_comp (own := [("_law_row", 3)]) rfl sc__law_total.nd (ri_any (re_var 0)) (blkOk_by (own := [("_law_row", 3)]) (by kernel_rfl)) (fun _ _ _ _ _ => (rg_nm sc__law_total.nd)) (fun _ _ _ _ _ => rts_nil) (fun _ _ _ _ _ => (re_sub (ix_any hr) (re_sub (ix_any hr) (re_var 3) re_int (fun _ _ => rfl)) (re_var 2) (fun _ _ => rfl)))) ra_nil)))) ra_nil))))
theorem sc__law_lows : FnScope N__law_lows (N__law_lows.take 3) (defScope st__law_lows) := ⟨rfl, rfl, rfl, by decide +kernel, rfl, by decide +kernel, by decide +kernel⟩
theorem ok__law_lows {w : World} {K : PySem.W.Frag} {mg : Str → Option Value} {base : Heap} (W : Wd facts defs gets errs K mg base) {fd : FuncData} (F : FunD K "_law_lows" "_law_lows" (defArgs st__law_lows) (defBody st__law_lows) (defScope st__law_lows) [] [] (He.fAd K d__law_lows.at_) fd) :
    FnG prg w K mg base CX0 1 (He.fAd K d__law_lows.at_) fd (N__law_lows.take 3) (spOf K ⟨mg, w⟩ 3 fn__law_lows) := by
  have b_min := W.free 2 (x := "min") rfl
  refine fn_ok0 (ms := ms__law_lows) F sc__law_lows fun cdv A outer s H E hr => ?_
  unfold ms__law_lows
  exact (rs_cons (rs_set (i := 3) sc__law_lows.nd re_dnew)
    (rs_cons (rs_for PassesOwn.never rfl (ri_any (re_var 1)) (rg_nm sc__law_lows.nd) (rs_cons (rs_dputg hr rfl (re_var 3) (re_var 4) (rg_nm sc__law_lows.nd) (re_tup (ra_cons re_int (ra_cons (re_lstR (ra_cons (re_tup (ra_cons (re_lst (ra_cons (re_var 4) ra_nil)) (ra_cons re_int ra_nil))) ra_nil)) ra_nil))))
    (rs_one (rs_while PassesOwn.never (rt_cmp (op_ne_any hr) (re_var 5) (re_lst ra_nil) (by rfl)) (rs_cons (rs_asg (re_bm0 PySem.F.plainAttrs_list PySem.F.slot_list_pop PySem.F.type_list_pop mt_pop_e isLst_ty (re_var 5)) (rg_tp rfl (rgs_cons (rg_nm sc__law_lows.nd) (rgs_cons (rg_nm sc__law_lows.nd) rgs_nil))))
    (rs_cons (rs_dput hr (re_var 3) (re_var 4) (re_cb (cb_min rfl hr) rfl b_min (by rfl) (ra_cons (re_sub (ix_any hr) (re_var 3) (re_var 4) (fun _ _ => rfl)) (ra_cons (re_var 7) ra_nil))))
    (rs_one (rs_for PassesOwn.never rfl (ri_any (re_var 0)) (rg_nm sc__law_lows.nd) (rs_one (rs_if (PW.pt (rw_and (rt_cmp (op_eq_any hr) (re_sub (ix_any hr) (re_var 8) re_int (fun _ _ => rfl)) (re_sub (ix_any hr) (re_var 6) (re_un un_neg_int re_int) (fun _ _ => rfl)) (by rfl)) (rw_and1 (rt_cmp (op_notin_any hr) (re_sub (ix_any hr) (re_var 8) re_int (fun _ _ => rfl)) (re_var 6) (by rfl))))) (rs_one (rs_expr (re_bm PySem.F.plainAttrs_list PySem.F.slot_list_append PySem.F.type_list_append mt_append_e isLst_ty (re_var 5) (ra_cons (re_tup (ra_cons (re_op op_add_any (re_var 6) (re_lst (ra_cons (re_sub (ix_any hr) (re_var 8) re_int (fun _ _ => rfl)) ra_nil))) (ra_cons (re_op op_add_any (re_var 7) (re_sub (ix_any hr) (re_sub (ix_any hr) (re_var 8) re_int (fun _ _ => rfl)) (re_var 2) (fun _ _ => rfl))) ra_nil))) ra_nil)))) rs_nil))))))))))
    (rs_one (rs_ret (re_var 3)))))
theorem sc_target_of : FnScope N_target_of (N_target_of.take 2) (defScope st_target_of) := ⟨rfl, rfl, rfl, by decide +kernel, rfl, by decide +kernel, by decide +kernel⟩
theorem ok_target_of {w : World} {K : PySem.W.Frag} {mg : Str → Option Value} {base : Heap} (W : Wd facts defs gets errs K mg base) {fd : FuncData} (F : FunD K "target_of" "target_of" (defArgs st_target_of) (defBody st_target_of) (defScope st_target_of) [] [] (He.fAd K d_target_of.at_) fd) :
    FnG prg w K mg base CX0 1 (He.fAd K d_target_of.at_) fd (N_target_of.take 2) (spOf K ⟨mg, w⟩ 2 fn_target_of) := by
  have g_System := W.glo 24 (x := "System") rfl
  have c_System := W.cls 25 (x := "System") rfl
  have n_System_kept_tables := W.noat 28 (x := "System") (f := "kept_tables") rfl
  refine fn_ok0 (ms := ms_target_of) F sc_target_of fun cdv A outer s H E hr => ?_
  unfold ms_target_of
  exact (rs_cons (rs_asg (re_var 1) (rg_tp rfl (rgs_cons (rg_nm sc_target_of.nd) (rgs_cons (rg_nm sc_target_of.nd) rgs_nil))))
    (rs_one (rs_ret (re_sub (ix_any hr) (re_sub (ix_any hr) (re_sub (ix_any hr) (re_sub (ix_any hr) (re_fld g_System c_System n_System_kept_tables (re_var 0)) (re_var 2) (fun _ _ => rfl)) re_int (fun _ _ => rfl)) (re_var 3) (fun _ _ => rfl)) re_int (fun _ _ => rfl)))))
theorem sc_vector_of : FnScope N_vector_of (N_vector_of.take 2) (defScope st_vector_of) := ⟨rfl, rfl, rfl, by decide +kernel, rfl, by decide +kernel, by decide +kernel⟩
theorem ok_vector_of {w : World} {K : PySem.W.Frag} {mg : Str → Option Value} {base : Heap} (W : Wd facts defs gets errs K mg base) {fd : FuncData} (F : FunD K "vector_of" "vector_of" (defArgs st_vector_of) (defBody st_vector_of) (defScope st_vector_of) [] [] (He.fAd K d_vector_of.at_) fd) :
    FnG prg w K mg base CX0 1 (He.fAd K d_vector_of.at_) fd (N_vector_of.take 2) (spOf K ⟨mg, w⟩ 2 fn_vector_of) := by
  have g_System := W.glo 24 (x := "System") rfl
  have c_System := W.cls 25 (x := "System") rfl
  have n_System_kept_tables := W.noat 28 (x := "System") (f := "kept_tables") rfl
  refine fn_ok0 (ms := ms_vector_of) F sc_vector_of fun cdv A outer s H E hr => ?_
  unfold ms_vector_of
  exact (rs_cons (rs_asg (re_var 1) (rg_tp rfl (rgs_cons (rg_nm sc_vector_of.nd) (rgs_cons (rg_nm sc_vector_of.nd) rgs_nil))))
    (rs_one (rs_ret (re_sub (ix_any hr) (re_sub (ix_any hr) (re_sub (ix_any hr) (re_sub (ix_any hr) (re_fld g_System c_System n_System_kept_tables (re_var 0)) (re_var 2) (fun _ _ => rfl)) re_int (fun _ _ => rfl)) (re_var 3) (fun _ _ => rfl)) re_int (fun _ _ => rfl)))))
theorem sc_Lowering_init : FnScope N_Lowering_init (N_Lowering_init.take 3) (defScope st_Lowering_init) := ⟨rfl, rfl, rfl, by decide +kernel, rfl, by decide +kernel, by decide +kernel⟩
theorem ok_Lowering_init {w : World} {K : PySem.W.Frag} {mg : Str → Option Value} {base : Heap} (W : Wd facts defs gets errs K mg base) {fd : FuncData} (F : FunD K "__init__" "Lowering.__init__" (defArgs st_Lowering_init) (defBody st_Lowering_init) (defScope st_Lowering_init) [] [] (He.fAd K d_Lowering_init.at_) fd) :
    FnG prg w K mg base CX0 3 (He.fAd K d_Lowering_init.at_) fd (N_Lowering_init.take 3) (spOf K ⟨mg, w⟩ 3 fn_Lowering_init) := by
  have g_Lowering := W.glo 44 (x := "Lowering") rfl
  have c_Lowering := W.cls 45 (x := "Lowering") rfl
  have n_Lowering_lows := W.noat 46 (x := "Lowering") (f := "lows") rfl
  obtain ⟨fd_System_names, F_System_names⟩ := (W.get 0 (d := p_System_names) rfl).2
  have G_System_names := ok_System_names (w := w) W F_System_names
  have B_System_names := FunD.bindsN (ps := N_System_names.take 1) F_System_names (fun _ _ _ _ _ _ us hl => match us, hl with | [_], _ => rfl)
  have g_System := W.glo 24 (x := "System") rfl
  have c_System := W.cls 25 (x := "System") rfl
  have P_System_names := (W.get 0 (d := p_System_names) rfl).1
  have n_Lowering_causes := W.noat 47 (x := "Lowering") (f := "causes") rfl
  have n_Lowering_late := W.noat 48 (x := "Lowering") (f := "late") rfl
  have b_range := W.free 0 (x := "range") rfl
  have b_len := W.free 1 (x := "len") rfl
  have n_System_named_reads := W.noat 30 (x := "System") (f := "named_reads") rfl
  obtain ⟨fd_target_of, F_target_of⟩ := W.c.def_ 23 (d := d_target_of) rfl
  have G_target_of := ok_target_of (w := w) W F_target_of
  have g_target_of := W.glo 49 (x := "target_of") rfl
  have B_target_of := FunD.bindsN (ps := N_target_of.take 2) F_target_of (fun _ _ _ _ _ _ us hl => match us, hl with | [_, _], _ => rfl)
  obtain ⟨fd_vector_of, F_vector_of⟩ := W.c.def_ 24 (d := d_vector_of) rfl
  have G_vector_of := ok_vector_of (w := w) W F_vector_of
  have g_vector_of := W.glo 50 (x := "vector_of") rfl
  have B_vector_of := FunD.bindsN (ps := N_vector_of.take 2) F_vector_of (fun _ _ _ _ _ _ us hl => match us, hl with | [_, _], _ => rfl)
  refine fn_ok0 (ms := ms_Lowering_init) F sc_Lowering_init fun cdv A outer s H E hr => ?_
  unfold ms_Lowering_init
  exact (rs_cons (rs_fld g_Lowering c_Lowering n_Lowering_lows (re_var 0) (re_dcomp (own := [("name", 5)]) rfl sc_Lowering_init.nd (ri_any (re_fz 9 (re_prop g_System c_System (re_var 1) P_System_names G_System_names (hr.mono (by decide)) B_System_names .nil (fun _ _ _ => rfl) pass_any))) (blkOk_by (own := [("name", 5)]) (by kernel_rfl)) (fun _ _ _ _ _ => (rg_nm sc_Lowering_init.nd)) (fun _ _ _ _ _ => rts_nil) (fun _ _ _ _ _ => (re_var 5)) (fun _ _ _ _ _ => re_int)))
    (rs_cons (rs_fld g_Lowering c_Lowering n_Lowering_causes (re_var 0) re_dnew)
    (rs_cons (rs_fld g_Lowering c_Lowering n_Lowering_late (re_var 0) re_non)
    (rs_one (rs_for PassesOwn.never rfl (ri_range1 rfl b_range (ra_cons (re_op op_add_any (re_cb cb_len rfl b_len (by rfl) (ra_cons (re_fld g_Lowering c_Lowering n_Lowering_lows (re_var 0)) ra_nil)) re_int) ra_nil)) (rg_nm sc_Lowering_init.nd) (rs_cons (rs_fld g_Lowering c_Lowering n_Lowering_late (re_var 0) re_non)
    (rs_one (rs_for PassesOwn.never rfl (ri_any (re_fld g_System c_System n_System_named_reads (re_var 1))) (rg_nm sc_Lowering_init.nd) (rs_cons (rs_set (i := 6) sc_Lowering_init.nd (re_op op_add_any (re_sub (ix_any hr) (re_fld g_Lowering c_Lowering n_Lowering_lows (re_var 0)) (re_fz 9 (re_call G_target_of (hr.mono (by decide)) rfl g_target_of F_target_of.kp B_target_of .nil (fun _ _ _ => rfl) pass_any (ra_cons (re_var 1) (ra_cons (re_var 4) ra_nil)))) (fun _ _ => rfl)) (re_sub (ix_any hr) (re_fz 9 (re_call G_vector_of (hr.mono (by decide)) rfl g_vector_of F_vector_of.kp B_vector_of .nil (fun _ _ _ => rfl) pass_any (ra_cons (re_var 1) (ra_cons (re_var 4) ra_nil)))) (re_var 2) (fun _ _ => rfl))))
    (rs_one (rs_if (rt_cmp op_lt_int (re_var 6) (re_sub (ix_any hr) (re_fld g_Lowering c_Lowering n_Lowering_lows (re_var 0)) (re_sub (ix_any hr) (re_var 4) re_int (fun _ _ => rfl)) (fun _ _ => rfl)) (by rfl)) (rs_cons (rs_dput hr (re_fld g_Lowering c_Lowering n_Lowering_lows (re_var 0)) (re_sub (ix_any hr) (re_var 4) re_int (fun _ _ => rfl)) (re_var 6))
    (rs_cons (rs_dput hr (re_fld g_Lowering c_Lowering n_Lowering_causes (re_var 0)) (re_sub (ix_any hr) (re_var 4) re_int (fun _ _ => rfl)) (re_var 4))
    (rs_one (rs_fld g_Lowering c_Lowering n_Lowering_late (re_var 0) (re_sub (ix_any hr) (re_var 4) re_int (fun _ _ => rfl)))))) rs_nil)))))))))))
theorem sc_greatest_shifts : FnScope N_greatest_shifts (N_greatest_shifts.take 1) (defScope st_greatest_shifts) := ⟨rfl, rfl, rfl, by decide +kernel, rfl, by decide +kernel, by decide +kernel⟩
theorem ok_greatest_shifts {w : World} {K : PySem.W.Frag} {mg : Str → Option Value} {base : Heap} (W : Wd facts defs gets errs K mg base) {fd : FuncData} (F : FunD K "greatest_shifts" "greatest_shifts" (defArgs st_greatest_shifts) (defBody st_greatest_shifts) (defScope st_greatest_shifts) [] [] (He.fAd K d_greatest_shifts.at_) fd) :
    FnG prg w K mg base CX0 5 (He.fAd K d_greatest_shifts.at_) fd (N_greatest_shifts.take 1) (spOf K ⟨mg, w⟩ 1 fn_greatest_shifts) := by
  have b_range := W.free 0 (x := "range") rfl
  have g_System := W.glo 24 (x := "System") rfl
  have c_System := W.cls 25 (x := "System") rfl
  have n_System_dimension_count := W.noat 26 (x := "System") (f := "dimension_count") rfl
  obtain ⟨fd_Lowering_init, F_Lowering_init⟩ := W.c.def_ 22 (d := d_Lowering_init) rfl
  have G_Lowering_init := ok_Lowering_init (w := w) W F_Lowering_init
  have g_Lowering := W.glo 44 (x := "Lowering") rfl
  have mk_Lowering := W.mkr 51 (x := "Lowering") rfl
  have B_Lowering_init := FunD.bindsN (ps := N_Lowering_init.take 3) F_Lowering_init (fun _ _ _ _ _ _ us hl => match us, hl with | [_, _, _], _ => rfl)
  have c_Lowering := W.cls 45 (x := "Lowering") rfl
  have n_Lowering_late := W.noat 48 (x := "Lowering") (f := "late") rfl
  have b_all := W.free 19 (x := "all") rfl
  obtain ⟨fd_System_names, F_System_names⟩ := (W.get 0 (d := p_System_names) rfl).2
  have G_System_names := ok_System_names (w := w) W F_System_names
  have B_System_names := FunD.bindsN (ps := N_System_names.take 1) F_System_names (fun _ _ _ _ _ _ us hl => match us, hl with | [_], _ => rfl)
  have P_System_names := (W.get 0 (d := p_System_names) rfl).1
  have n_Lowering_lows := W.noat 46 (x := "Lowering") (f := "lows") rfl
  have b_tuple := W.free 8 (x := "tuple") rfl
  refine fn_ok0 (ms := ms_greatest_shifts) F sc_greatest_shifts fun cdv A outer s H E hr => ?_
  unfold ms_greatest_shifts
  exact (rs_cons (rs_set (i := 1) sc_greatest_shifts.nd (re_comp (own := [("axis", 2)]) rfl sc_greatest_shifts.nd (ri_range1 rfl b_range (ra_cons (re_fld g_System c_System n_System_dimension_count (re_var 0)) ra_nil)) (blkOk_by (own := [("axis", 2)]) (by kernel_rfl)) (fun _ _ _ _ _ => (rg_nm sc_greatest_shifts.nd)) (fun _ _ _ _ _ => rts_nil) (fun _ _ _ _ _ => (re_fz 9 (re_make mk_Lowering g_Lowering G_Lowering_init (hr.mono (by decide)) rfl B_Lowering_init .nil (fun _ _ _ => rfl) pass_any (ra_cons (re_var 0) (ra_cons (re_var 2) ra_nil)))))))
    (rs_cons (rs_if (rt_not (rt_tru (re_cb (cb_all rfl) rfl b_all (by rfl) (ra_cons (re_comp (own := [("lowering", 4)]) rfl sc_greatest_shifts.nd (ri_any (re_var 1)) (blkOk_by (own := [("lowering", 4)]) (by kernel_rfl)) (fun _ _ _ _ _ => (rg_nm sc_greatest_shifts.nd)) (fun _ _ _ _ _ => rts_nil) (fun _ _ _ _ _ => (re_cmp op_is_n (re_fld g_Lowering c_Lowering n_Lowering_late (re_var 4)) re_non (by rfl)))) ra_nil)))) (rs_one (rs_ret re_non)) rs_nil)
    (rs_one (rs_ret (re_dcomp (own := [("name", 3)]) rfl sc_greatest_shifts.nd (ri_any (re_fz 9 (re_prop g_System c_System (re_var 0) P_System_names G_System_names (hr.mono (by decide)) B_System_names .nil (fun _ _ _ => rfl) pass_any))) (blkOk_by (own := [("name", 3)]) (by kernel_rfl)) (fun _ _ _ _ _ => (rg_nm sc_greatest_shifts.nd)) (fun _ _ _ _ _ => rts_nil) (fun _ _ _ _ _ => (re_var 3)) (fun _ _ _ _ _ => (re_cty cb_tuple rfl b_tuple (by rfl) (ra_cons (re_comp (own := [("lowering", 4)]) rfl sc_greatest_shifts.nd (ri_any (re_var 1)) (blkOk_by (own := [("lowering", 4)]) (by kernel_rfl)) (fun _ _ _ _ _ => (rg_nm sc_greatest_shifts.nd)) (fun _ _ _ _ _ => rts_nil) (fun _ _ _ _ _ => (re_sub (ix_any hr) (re_fld g_Lowering c_Lowering n_Lowering_lows (re_var 4)) (re_var 3) (fun _ _ => rfl)))) ra_nil))))))))
theorem sc__law_right : FnScope N__law_right (N__law_right.take 1) (defScope st__law_right) := ⟨rfl, rfl, rfl, by decide +kernel, rfl, by decide +kernel, by decide +kernel⟩
theorem ok__law_right {w : World} {K : PySem.W.Frag} {mg : Str → Option Value} {base : Heap} (W : Wd facts defs gets errs K mg base) {fd : FuncData} (F : FunD K "_law_right" "_law_right" (defArgs st__law_right) (defBody st__law_right) (defScope st__law_right) [] [] (He.fAd K d__law_right.at_) fd) :
    FnG prg w K mg base CX0 7 (He.fAd K d__law_right.at_) fd (N__law_right.take 1) (spOf K ⟨mg, w⟩ 1 fn__law_right) := by
  obtain ⟨fd__law_draw, F__law_draw⟩ := W.c.def_ 3 (d := d__law_draw) rfl
  have G__law_draw := ok__law_draw (w := w) W F__law_draw
  have g__law_draw := W.glo 6 (x := "_law_draw") rfl
  have B__law_draw := FunD.bindsN (ps := N__law_draw.take 2) F__law_draw (fun _ _ _ _ _ _ us hl => match us, hl with | [_, _], _ => rfl)
  obtain ⟨fd__law_drawn, F__law_drawn⟩ := W.c.def_ 4 (d := d__law_drawn) rfl
  have G__law_drawn := ok__law_drawn (w := w) W F__law_drawn
  have g__law_drawn := W.glo 13 (x := "_law_drawn") rfl
  have B__law_drawn := FunD.bindsN (ps := N__law_drawn.take 2) F__law_drawn (fun _ _ _ _ _ _ us hl => match us, hl with | [_, _], _ => rfl)
  obtain ⟨fd__law_made, F__law_made⟩ := W.c.def_ 8 (d := d__law_made) rfl
  have G__law_made := ok__law_made (w := w) W F__law_made
  have g__law_made := W.glo 32 (x := "_law_made") rfl
  have B__law_made := FunD.bindsN (ps := N__law_made.take 2) F__law_made (fun _ _ _ _ _ _ us hl => match us, hl with | [_, _], _ => rfl)
  have b_sorted := W.free 29 (x := "sorted") rfl
  obtain ⟨fd_shifted, F_shifted⟩ := W.c.def_ 13 (d := d_shifted) rfl
  have G_shifted := ok_shifted (w := w) W F_shifted
  have g_shifted := W.glo 37 (x := "shifted") rfl
  obtain ⟨fd__law_shift, F__law_shift⟩ := W.c.def_ 17 (d := d__law_shift) rfl
  have G__law_shift := ok__law_shift (w := w) W F__law_shift
  have g__law_shift := W.glo 38 (x := "_law_shift") rfl
  have B__law_shift := FunD.bindsN (ps := N__law_shift.take 3) F__law_shift (fun _ _ _ _ _ _ us hl => match us, hl with | [_, _, _], _ => rfl)
  have B_shifted := FunD.bindsN (ps := N_shifted.take 2) F_shifted (fun _ _ _ _ _ _ us hl => match us, hl with | [_, _], _ => rfl)
  have b_enumerate := W.free 16 (x := "enumerate") rfl
  obtain ⟨fd_System_reads, F_System_reads⟩ := W.c.def_ 14 (d := d_System_reads) rfl
  have G_System_reads := ok_System_reads (w := w) W F_System_reads
  have B_System_reads := FunD.bindsN (ps := N_System_reads.take 2) F_System_reads (fun _ _ _ _ _ _ us hl => match us, hl with | [_, _], _ => rfl)
  have g_System := W.glo 24 (x := "System") rfl
  have c_System := W.cls 25 (x := "System") rfl
  have M_System_reads := W.meth 35 (x := "System") (f := "reads") rfl
  obtain ⟨fd__law_cycles, F__law_cycles⟩ := W.c.def_ 18 (d := d__law_cycles) rfl
  have G__law_cycles := ok__law_cycles (w := w) W F__law_cycles
  have g__law_cycles := W.glo 40 (x := "_law_cycles") rfl
  have B__law_cycles := FunD.bindsN (ps := N__law_cycles.take 1) F__law_cycles (fun _ _ _ _ _ _ us hl => match us, hl with | [_], _ => rfl)
  obtain ⟨fd__law_total, F__law_total⟩ := W.c.def_ 19 (d := d__law_total) rfl
  have G__law_total := ok__law_total (w := w) W F__law_total
  have g__law_total := W.glo 42 (x := "_law_total") rfl
  have B__law_total := FunD.bindsN (ps := N__law_total.take 2) F__law_total (fun _ _ _ _ _ _ us hl => match us, hl with | [_, _], _ => rfl)
  have b_min := W.free 2 (x := "min") rfl
  have b_range := W.free 0 (x := "range") rfl
  obtain ⟨fd__law_lows, F__law_lows⟩ := W.c.def_ 20 (d := d__law_lows) rfl
  have G__law_lows := ok__law_lows (w := w) W F__law_lows
  have g__law_lows := W.glo 43 (x := "_law_lows") rfl
  have B__law_lows := FunD.bindsN (ps := N__law_lows.take 3) F__law_lows (fun _ _ _ _ _ _ us hl => match us, hl with | [_, _, _], _ => rfl)
  have b_tuple := W.free 8 (x := "tuple") rfl
  obtain ⟨fd_greatest_shifts, F_greatest_shifts⟩ := W.c.def_ 21 (d := d_greatest_shifts) rfl
  have G_greatest_shifts := ok_greatest_shifts (w := w) W F_greatest_shifts
  have g_greatest_shifts := W.glo 52 (x := "greatest_shifts") rfl
  have K_greatest_shifts_system := kbn_of (ps := N_greatest_shifts.take 1) (ks := ["system"]) (n := 0) [.inr 0] F_greatest_shifts (fun _ _ _ _ _ _ us ws h1 h2 => match us, ws, h1, h2 with | [], [_], _, _ => rfl)
  have B_greatest_shifts := FunD.bindsN (ps := N_greatest_shifts.take 1) F_greatest_shifts (fun _ _ _ _ _ _ us hl => match us, hl with | [_], _ => rfl)
  refine fn_ok0 (ms := ms__law_right) F sc__law_right fun cdv A outer s H E hr => ?_
  unfold ms__law_right
  exact (rs_cons (rs_set (i := 1) sc__law_right.nd (re_op op_add_any re_int (re_fz 9 (re_call G__law_draw (hr.mono (by decide)) rfl g__law_draw F__law_draw.kp B__law_draw .nil (fun _ _ _ => rfl) pass_any (ra_cons (re_var 0) (ra_cons re_int ra_nil))))))
    (rs_cons (rs_set (i := 2) sc__law_right.nd (re_fz 9 (re_call G__law_drawn (hr.mono (by decide)) rfl g__law_drawn F__law_drawn.kp B__law_drawn .nil (fun _ _ _ => rfl) pass_any (ra_cons (re_var 0) (ra_cons (re_var 1) ra_nil)))))
    (rs_cons (rs_asg (re_tup (ra_cons (re_fz 9 (re_call G__law_made (hr.mono (by decide)) rfl g__law_made F__law_made.kp B__law_made .nil (fun _ _ _ => rfl) pass_any (ra_cons (re_var 1) (ra_cons (re_var 2) ra_nil)))) (ra_cons (re_cb cb_sortS rfl b_sorted (by rfl) (ra_cons (re_comp (own := [("_law_one", 11)]) rfl sc__law_right.nd (ri_any (re_var 2)) (blkOk_by (own := [("_law_one", 11)]) (by kernel_rfl)) (fun _ _ _ _ _ => (rg_nm sc__law_right.nd)) (fun _ _ _ _ _ => rts_nil) (fun _ _ _ _ _ => (re_sub (ix_any hr) (re_var 11) re_int (fun _ _ => rfl)))) ra_nil)) ra_nil))) (rg_tp rfl (rgs_cons (rg_nm sc__law_right.nd) (rgs_cons (rg_nm sc__law_right.nd) rgs_nil))))
    (rs_cons (rs_if (rt_cmp (op_eq_any hr) (re_fz 9 (re_call G__law_draw (hr.mono (by decide)) rfl g__law_draw F__law_draw.kp B__law_draw .nil (fun _ _ _ => rfl) pass_any (ra_cons (re_var 0) (ra_cons re_int ra_nil)))) re_int (by rfl)) (rs_one (rs_set (i := 3) sc__law_right.nd (re_fz 9 (re_call G_shifted (hr.mono (by decide)) rfl g_shifted F_shifted.kp B_shifted .nil (fun _ _ _ => rfl) pass_any (ra_cons (re_var 3) (ra_cons (re_fz 9 (re_call G__law_shift (hr.mono (by decide)) rfl g__law_shift F__law_shift.kp B__law_shift .nil (fun _ _ _ => rfl) pass_any (ra_cons (re_var 0) (ra_cons (re_var 4) (ra_cons (re_var 1) ra_nil))))) ra_nil)))))) rs_nil)
    (rs_cons (rs_set (i := 5) sc__law_right.nd (re_lstR ra_nil))
    (rs_cons (rs_for PassesOwn.never rfl (ri_any (re_var 4)) (rg_nm sc__law_right.nd) (rs_one (rs_expr (re_bm PySem.F.plainAttrs_list PySem.F.slot_list_extend PySem.F.type_list_extend mt_extend_e isLst_ty (re_var 5) (ra_cons (re_comp (own := [("_law_number", 12), ("_law_row", 13)]) rfl sc__law_right.nd (ri_enum rfl b_enumerate (ra_cons (re_fz 9 (re_meth g_System (re_var 3) c_System M_System_reads G_System_reads (hr.mono (by decide)) B_System_reads .nil (fun _ _ _ => rfl) pass_any (ra_cons (re_var 6) ra_nil))) ra_nil)) (blkOk_by (own := [("_law_number", 12), ("_law_row", 13)]) (by kernel_rfl)) (fun _ _ _ _ _ => (rg_tp rfl (rgs_cons (rg_nm sc__law_right.nd) (rgs_cons (rg_nm sc__law_right.nd) rgs_nil)))) (fun _ _ _ _ _ => rts_nil) (fun _ _ _ _ _ => (re_tup (ra_cons (re_var 6) (ra_cons (re_var 12) (ra_cons (re_sub (ix_any hr) (re_var 13) re_int (fun _ _ => rfl)) (ra_cons (re_sub (ix_any hr) (re_var 13) re_int (fun _ _ => rfl)) ra_nil))))))) ra_nil)))))
    (rs_fzV (i := 5) (rs_cons (rs_set (i := 7) sc__law_right.nd re_non)
    (rs_cons (rs_if (rt_cmp (op_eq_any hr) (re_comp (own := [("_law_one", 11)]) rfl sc__law_right.nd (ri_any (re_fz 9 (re_call G__law_cycles (hr.mono (by decide)) rfl g__law_cycles F__law_cycles.kp B__law_cycles .nil (fun _ _ _ => rfl) pass_any (ra_cons (re_var 5) ra_nil)))) (blkOk_by (own := [("_law_one", 11)]) (by kernel_rfl)) (fun _ _ _ _ _ => (rg_nm sc__law_right.nd)) (fun _ _ _ _ _ => (rts_one (rt_cmp op_lt_int (re_cb (cb_min rfl hr) rfl b_min (by rfl) (ra_cons (re_fz 9 (re_call G__law_total (hr.mono (by decide)) rfl g__law_total F__law_total.kp B__law_total .nil (fun _ _ _ => rfl) pass_any (ra_cons (re_var 11) (ra_cons (re_var 1) ra_nil)))) ra_nil)) re_int (by rfl)))) (fun _ _ _ _ _ => (re_var 11))) (re_lst ra_nil) (by rfl)) (rs_cons (rs_par (i := 9) (j := 7) rfl sc__law_right.nd (ra_cons (re_comp (own := [("_law_axis", 14)]) rfl sc__law_right.nd (ri_range1 rfl b_range (ra_cons (re_var 1) ra_nil)) (blkOk_by (own := [("_law_axis", 14)]) (by kernel_rfl)) (fun _ _ _ _ _ => (rg_nm sc__law_right.nd)) (fun _ _ _ _ _ => rts_nil) (fun _ _ _ _ _ => (re_fz 9 (re_call G__law_lows (hr.mono (by decide)) rfl g__law_lows F__law_lows.kp B__law_lows .nil (fun _ _ _ => rfl) pass_any (ra_cons (re_var 5) (ra_cons (re_var 4) (ra_cons (re_var 14) ra_nil))))))) (ra_cons re_dnew ra_nil)))
    (rs_one (rs_for PassesOwn.never rfl (ri_any (re_var 4)) (rg_nm sc__law_right.nd) (rs_one (rs_dput hr (re_var 7) (re_var 6) (re_cty cb_tuple rfl b_tuple (by rfl) (ra_cons (re_comp (own := [("_law_low", 15)]) rfl sc__law_right.nd (ri_any (re_var 9)) (blkOk_by (own := [("_law_low", 15)]) (by kernel_rfl)) (fun _ _ _ _ _ => (rg_nm sc__law_right.nd)) (fun _ _ _ _ _ => rts_nil) (fun _ _ _ _ _ => (re_sub (ix_any hr) (re_var 15) (re_var 6) (fun _ _ => rfl)))) ra_nil))))))) rs_nil)
    (rs_cons (rs_for PassesOwn.never rfl (ri_range1 rfl b_range (ra_cons re_int ra_nil)) (rg_nm sc__law_right.nd) (rs_cons (rs_set (i := 10) sc__law_right.nd (re_callN0 (ks := ["system"]) (gE := prm .non [.inr 0]) G_greatest_shifts (hr.mono (by decide)) rfl g_greatest_shifts F_greatest_shifts.kp K_greatest_shifts_system (prm_ok _) pass_any (rk_cons (re_var 3) rk_nil)))
    (rs_cons (rs_if (PW.pt (rw_or (rt_cmp (op_eqDN (neg := true) hr) (re_var 10) (re_var 7) (by rfl)) (rw_or1 (rt_cmp (op_eqDN (neg := true) hr) (re_fz 9 (re_call G_greatest_shifts (hr.mono (by decide)) rfl g_greatest_shifts F_greatest_shifts.kp B_greatest_shifts .nil (fun _ _ _ => rfl) pass_any (ra_cons (re_var 3) ra_nil))) (re_var 7) (by rfl))))) (rs_one (rs_ret re_bl)) rs_nil)
    (rs_one (rs_if (rt_cmp op_isnot_n (re_var 10) re_non (by rfl)) (rs_one (rs_expr (re_bm0 PySem.F.plainAttrs_dict PySem.F.slot_dict_clear PySem.F.type_dict_clear mt_clear_e isDct_ty (re_var 10)))) rs_nil)))))
    (rs_one (rs_ret re_bl))))))))))))
theorem sc_law : FnScope N_law (N_law.take 1) (defScope st_law) := ⟨rfl, rfl, rfl, by decide +kernel, rfl, by decide +kernel, by decide +kernel⟩
theorem ok_law {w : World} {K : PySem.W.Frag} {mg : Str → Option Value} {base : Heap} (W : Wd facts defs gets errs K mg base) {fd : FuncData} (F : FunD K "law" "law" (defArgs st_law) (defBody st_law) (defScope st_law) [] [] (He.fAd K d_law.at_) fd) :
    FnG prg w K mg base CX0 8 (He.fAd K d_law.at_) fd (N_law.take 1) (spOf K ⟨mg, w⟩ 1 fn_law) := by
  have b_range := W.free 0 (x := "range") rfl
  have b_len := W.free 1 (x := "len") rfl
  have b_min := W.free 2 (x := "min") rfl
  have b_max := W.free 3 (x := "max") rfl
  obtain ⟨fd__law_pool, F__law_pool⟩ := W.c.def_ 1 (d := d__law_pool) rfl
  have G__law_pool := ok__law_pool (w := w) W F__law_pool
  have g__law_pool := W.glo 5 (x := "_law_pool") rfl
  have B__law_pool := FunD.bindsN (ps := N__law_pool.take 2) F__law_pool (fun _ _ _ _ _ _ us hl => match us, hl with | [_, _], _ => rfl)
  obtain ⟨fd__law_right, F__law_right⟩ := W.c.def_ 2 (d := d__law_right) rfl
  have G__law_right := ok__law_right (w := w) W F__law_right
  have g__law_right := W.glo 53 (x := "_law_right") rfl
  have B__law_right := FunD.bindsN (ps := N__law_right.take 1) F__law_right (fun _ _ _ _ _ _ us hl => match us, hl with | [_], _ => rfl)
  obtain ⟨fd_System_init, F_System_init⟩ := W.c.def_ 9 (d := d_System_init) rfl
  have G_System_init := ok_System_init (w := w) W F_System_init
  have g_System := W.glo 24 (x := "System") rfl
  have mk_System := W.mkr 31 (x := "System") rfl
  obtain ⟨ds_B_System_init_3, dr_B_System_init_3, B_System_init_3⟩ := FunD.binds1 (ps := N_System_init.take 4) F_System_init 3 0 (by simp [d_System_init, He.DefD.dvs]) rfl (fun _ _ _ _ _ _ _ us its h1 h2 => match us, its, h1, h2 with | [_, _, _], [_], _, _ => ⟨_, rfl, rfl⟩)
  have b_zip := W.free 10 (x := "zip") rfl
  have b_dict := W.free 54 (x := "dict") rfl
  obtain ⟨fd_greatest_shifts, F_greatest_shifts⟩ := W.c.def_ 21 (d := d_greatest_shifts) rfl
  have G_greatest_shifts := ok_greatest_shifts (w := w) W F_greatest_shifts
  have g_greatest_shifts := W.glo 52 (x := "greatest_shifts") rfl
  have B_greatest_shifts := FunD.bindsN (ps := N_greatest_shifts.take 1) F_greatest_shifts (fun _ _ _ _ _ _ us hl => match us, hl with | [_], _ => rfl)
  refine fn_ok0 (ms := ms_law) F sc_law fun cdv A outer s H E hr => ?_
  unfold ms_law
  exact (rs_cons (rs_for PassesOwn.never rfl (ri_range1 rfl b_range (ra_cons (re_cb (cb_max rfl hr) rfl b_max (by rfl) (ra_cons re_int (ra_cons (re_cb (cb_min rfl hr) rfl b_min (by rfl) (ra_cons re_int (ra_cons (re_cb cb_len rfl b_len (by rfl) (ra_cons (re_var 0) ra_nil)) ra_nil))) ra_nil))) ra_nil)) (rg_nm sc_law.nd) (rs_cons (rs_set (i := 7) sc_law.nd (re_call G__law_pool (hr.mono (by decide)) rfl g__law_pool F__law_pool.kp B__law_pool .nil (fun _ _ _ => rfl) pass_any (ra_cons (re_var 0) (ra_cons (re_var 1) ra_nil))))
    (rs_one (rs_for PassesOwn.never rfl (ri_range1 rfl b_range (ra_cons re_int ra_nil)) (rg_nm sc_law.nd) (rs_one (rs_if (rt_not (rt_tru (re_fz 9 (re_call G__law_right (hr.mono (by decide)) rfl g__law_right F__law_right.kp B__law_right .nil (fun _ _ _ => rfl) pass_any (ra_cons (re_var 7) ra_nil))))) (rs_one (rs_ret re_bl)) rs_nil))))))
    (rs_cons (rs_set (i := 2) sc_law.nd (re_fz 9 (re_make mk_System g_System G_System_init (hr.mono (by decide)) rfl B_System_init_3 dr_B_System_init_3 (fun _ _ _ => ⟨_, _, rfl, rfl, rfl⟩) pass_any (ra_cons re_int (ra_cons (re_lst (ra_cons (re_tup (ra_cons re_str (ra_cons re_int (ra_cons (re_lst (ra_cons (re_tup (ra_cons re_str (ra_cons (re_tup (ra_cons (re_un un_neg_int re_int) ra_nil)) (ra_cons re_int ra_nil)))) ra_nil)) ra_nil)))) (ra_cons (re_tup (ra_cons re_str (ra_cons re_int (ra_cons (re_lst (ra_cons (re_tup (ra_cons re_str (ra_cons (re_tup (ra_cons re_int ra_nil)) (ra_cons re_int ra_nil)))) ra_nil)) ra_nil)))) ra_nil))) ra_nil)))))
    (rs_cons (rs_set (i := 3) sc_law.nd (re_fz 9 (re_make mk_System g_System G_System_init (hr.mono (by decide)) rfl B_System_init_3 dr_B_System_init_3 (fun _ _ _ => ⟨_, _, rfl, rfl, rfl⟩) pass_any (ra_cons re_int (ra_cons (re_lst (ra_cons (re_tup (ra_cons re_str (ra_cons re_int (ra_cons (re_lst (ra_cons (re_tup (ra_cons re_str (ra_cons (re_tup (ra_cons re_int (ra_cons (re_un un_neg_int re_int) ra_nil))) (ra_cons re_int ra_nil)))) ra_nil)) ra_nil)))) (ra_cons (re_tup (ra_cons re_str (ra_cons re_int (ra_cons (re_lst ra_nil) ra_nil)))) ra_nil))) ra_nil)))))
    (rs_cons (rs_setComp (own := [("_law_one", 9), ("_law_two", 10)]) rfl sc_law.nd (sw_true rfl rfl rfl rfl) (ri_zipS rfl b_zip (ra_cons re_str (ra_cons re_str ra_nil))) (blkOk_by (own := [("_law_one", 9), ("_law_two", 10)]) (by kernel_rfl)) (fun _ _ _ _ _ => (rg_tp rfl (rgs_cons (rg_nm sc_law.nd) (rgs_cons (rg_nm sc_law.nd) rgs_nil)))) (fun _ _ _ _ _ => rts_nil) (fun _ _ _ _ _ => (re_tup (ra_cons (re_var 9) (ra_cons re_int (ra_cons (re_lst (ra_cons (re_tup (ra_cons (re_var 10) (ra_cons (re_tup (ra_cons re_int ra_nil)) (ra_cons re_int ra_nil)))) ra_nil)) ra_nil))))))
    (rs_cons (rs_set (i := 4) sc_law.nd (re_op op_add_any (re_var 4) (re_lst (ra_cons (re_tup (ra_cons re_str (ra_cons re_int (ra_cons (re_lst (ra_cons (re_tup (ra_cons re_str (ra_cons (re_tup (ra_cons (re_un un_neg_int re_int) ra_nil)) (ra_cons re_int ra_nil)))) ra_nil)) ra_nil)))) (ra_cons (re_tup (ra_cons re_str (ra_cons re_int (ra_cons (re_lst ra_nil) ra_nil)))) ra_nil)))))
    (rs_cons (rs_set (i := 5) sc_law.nd (re_fz 9 (re_cty (cb_dictP rfl) rfl b_dict (by rfl) (ra_cons (re_op op_add_any (re_comp (own := [("_law_title", 11)]) rfl sc_law.nd (ri_any re_str) (blkOk_by (own := [("_law_title", 11)]) (by kernel_rfl)) (fun _ _ _ _ _ => (rg_nm sc_law.nd)) (fun _ _ _ _ _ => rts_nil) (fun _ _ _ _ _ => (re_tup (ra_cons (re_var 11) (ra_cons (re_tup (ra_cons (re_un un_neg_int re_int) ra_nil)) ra_nil))))) (re_lst (ra_cons (re_tup (ra_cons re_str (ra_cons (re_tup (ra_cons re_int ra_nil)) ra_nil))) ra_nil))) ra_nil))))
    (rs_cons (rs_set (i := 6) sc_law.nd (re_lst (ra_cons (re_fz 9 (re_call G_greatest_shifts (hr.mono (by decide)) rfl g_greatest_shifts F_greatest_shifts.kp B_greatest_shifts .nil (fun _ _ _ => rfl) pass_any (ra_cons (re_var 2) ra_nil))) (ra_cons (re_fz 9 (re_call G_greatest_shifts (hr.mono (by decide)) rfl g_greatest_shifts F_greatest_shifts.kp B_greatest_shifts .nil (fun _ _ _ => rfl) pass_any (ra_cons (re_var 3) ra_nil))) (ra_cons (re_fz 9 (re_call G_greatest_shifts (hr.mono (by decide)) rfl g_greatest_shifts F_greatest_shifts.kp B_greatest_shifts .nil (fun _ _ _ => rfl) pass_any (ra_cons (re_fz 9 (re_make mk_System g_System G_System_init (hr.mono (by decide)) rfl B_System_init_3 dr_B_System_init_3 (fun _ _ _ => ⟨_, _, rfl, rfl, rfl⟩) pass_any (ra_cons re_int (ra_cons (re_var 4) ra_nil)))) ra_nil))) ra_nil)))))
    (rs_one (rs_ret (re_cmp (op_eqLD hr) (re_var 6) (re_fz 9 (re_lst (ra_cons (re_disp (ks := ["a", "b"]) (disp_cons (re_tup (ra_cons (re_un un_neg_int re_int) ra_nil)) (disp_cons (re_tup (ra_cons re_int ra_nil)) disp_nil))) (ra_cons re_non (ra_cons (re_var 5) ra_nil))))) (by rfl)))))))))))
end LW
set_option maxHeartbeats 0
namespace LW
open PySem PySem.Spec PyProof.Rows L2 VM
private theorem nt_i {a b : Prop} (h : b) : bif !true then a else b := h
private theorem compR_i {mi : MI} {g : Tg} {tt : MT} {te : ME} {vs : List Nat} {xc : XC} {es : Es} {eh : Eh} {q : KE} (h : mi xc es eh fun xs ok eh1 => compL g tt te vs ok (qRef q) xs [] es eh1) : mCompR mi g tt te vs xc es eh q := h
private theorem nf_i {a b : Prop} (h : a) : bif !false then a else b := h
private theorem excv_i {cn : Str} {a : ME} {xc : XC} {es : Es} {eh : Eh} {q : KE} (h : a xc es eh fun x eh1 => q (.exc cn x) eh1) : mExc cn a xc es eh q := h
private theorem xval_i {ls : List Str} {a : ME} {xc : XC} {es : Es} {eh : Eh} {q : KE} (h : a xc es eh fun x eh1 => ∃ C y, x = .exc C y ∧ C ∈ ls ∧ q y eh1) : mXv ls a xc es eh q := h
private theorem daug_i {md mk mv : ME} {xc : XC} {d : Dn} {s : Es} {eh : Eh} (h : md xc s eh fun x eh1 => mk xc s eh1 fun y eh2 => ∃ p kvs key i, x = .ref p ∧ eh2 p = some (.dct kvs) ∧ keyE y = some key ∧ getK kvs key = some (.int i) ∧
    mv xc s eh2 fun z eh3 => ∃ j kvs', z = .int j ∧ eh3 p = some (.dct kvs') ∧ kvs'.length < sizeLine ∧ d.nx s (eupd eh3 p (some (.dct (putKE kvs' key (.int (i + j))))))) : sDAugE md mk mv xc d s eh := h
local macro_rules | `(tactic| walk_at "vm") => `(tactic| first
  | with_reducible refine fn_i ?_ | with_reducible refine seq_i ?_ | with_reducible refine next_i ?_ | with_reducible refine brk_i ?_ | with_reducible refine cont_i ?_ | with_reducible refine expr_i ?_ | with_reducible refine ret_i ?_ | with_reducible refine retN_i ?_
  | with_reducible refine set_i ?_ | with_reducible refine if_i ?_ | with_reducible refine asg_i ?_ | with_reducible refine par_i ?_ | with_reducible refine fld_s ?_ | with_reducible refine dput_i ?_ | with_reducible refine lput_i ?_ | with_reducible refine for_i ?_
  | with_reducible refine c_i ?_ | ((with_reducible apply var_i); rfl) | with_reducible refine op_i ?_ | with_reducible refine un_i ?_ | with_reducible refine chain_i ?_ | with_reducible refine ife_i ?_ | with_reducible refine anil_i ?_ | with_reducible refine acons_i ?_ | with_reducible refine astar_i ?_
  | with_reducible refine tup_i ?_ | with_reducible refine lst_i ?_ | with_reducible refine lstR_i ?_ | with_reducible refine fld_i ?_ | with_reducible refine dnew_i ?_ | with_reducible refine cb_i ?_ | with_reducible refine bm_i ?_ | with_reducible refine sl_i ?_ | with_reducible refine no_i ?_ | with_reducible refine pt_i ?_
  | with_reducible refine fzc_i ?_ | with_reducible refine fzn_i ?_ | with_reducible refine fzp_i ?_ | with_reducible refine fzm_i ?_ | with_reducible refine methn_i ?_ | with_reducible refine max2_i ?_ | with_reducible refine fzk_i ?_ | with_reducible refine call_i ?_ | with_reducible refine calln_i ?_ | with_reducible refine make_i ?_ | with_reducible refine prop_i ?_ | with_reducible refine meth_i ?_ | with_reducible refine sortk_i ?_ | with_reducible refine comp_i ?_ | with_reducible refine comp2_i ?_
  | with_reducible refine val_i ?_ | with_reducible refine tru_i ?_ | with_reducible refine tand_i ?_ | with_reducible refine tor_i ?_ | with_reducible refine tnot_i ?_ | with_reducible refine tyes_i ?_ | with_reducible refine mand_i ?_ | with_reducible refine mor_i ?_ | with_reducible refine mnot_i ?_
  | with_reducible refine bl_i ?_ | with_reducible refine cT_i ?_ | with_reducible refine cF_i ?_ | with_reducible refine add_i ?_ | with_reducible refine sub_i ?_ | with_reducible refine neg_i ?_ | with_reducible refine lt_i ?_ | with_reducible refine le_i ?_ | with_reducible refine gt_i ?_ | with_reducible refine ge_i ?_
  | with_reducible refine eqI_i ?_ | with_reducible refine neI_i ?_ | with_reducible refine eqS_i ?_ | with_reducible refine int_i ?_ | with_reducible refine abs_i ?_ | with_reducible refine min2_i ?_ | with_reducible refine any_i ?_ | with_reducible refine rng1_i ?_ | with_reducible refine enum_i ?_ | with_reducible refine zip_i ?_ | with_reducible refine zipT_i ?_ | with_reducible refine items_i ?_)
local macro_rules | `(tactic| walk_at "go") => `(tactic| repeat (first
  | walk_at "vm"
  | with_reducible refine excv_i ?_ | with_reducible refine xval_i ?_ | with_reducible refine daug_i ?_ | with_reducible refine compR_i ?_ | with_reducible refine nt_i ?_ | with_reducible refine nf_i ?_
  | with_reducible refine ⟨szL (by simp), ?_⟩
  | with_reducible refine asgx_i (by with_unfolding_all rfl) ?_
  | with_reducible refine walkT_i ?_ | with_reducible refine walkS_i ?_ | with_reducible refine lenF_i ?_ | with_reducible refine lenT_i ?_ | with_reducible refine tru_bl ?_ | with_reducible refine intx_i ?_
  | with_reducible refine tupleL_i ?_ | with_reducible refine slT_i ?_ | with_reducible refine rev_i ?_
  | dsimp only))
local macro_rules | `(tactic| walk_at "nz") => `(tactic| simp only [List.map_cons, List.map_nil, List.append_nil, List.length_cons, List.length_nil, Nat.reduceAdd, Nat.reduceSub, List.replicate_succ, List.replicate_zero, List.cons_append, List.nil_append, List.set_cons_zero, List.set_cons_succ])

/-! ### sums -/
def sg (f : Nat → Int) : Nat → Int
  | 0 => 0
  | n + 1 => sg f n + f n
theorem sg_congr {f g : Nat → Int} : ∀ {n : Nat}, (∀ k < n, f k = g k) → sg f n = sg g n
  | 0, _ => rfl
  | n + 1, h => by show sg f n + f n = sg g n + g n; rw [sg_congr fun k hk => h k (by omega), h n (by omega)]
theorem sg_zero {f : Nat → Int} : ∀ {n : Nat}, (∀ k < n, f k = 0) → sg f n = 0
  | 0, _ => rfl
  | n + 1, h => by show sg f n + f n = 0; rw [sg_zero fun k hk => h k (by omega), h n (by omega)]; rfl
theorem sg_add (f g : Nat → Int) : ∀ n, sg (fun k => f k + g k) n = sg f n + sg g n
  | 0 => rfl
  | n + 1 => by show sg (fun k => f k + g k) n + (f n + g n) = sg f n + f n + (sg g n + g n); rw [sg_add f g n]; omega
theorem sg_sub (f g : Nat → Int) : ∀ n, sg (fun k => f k - g k) n = sg f n - sg g n
  | 0 => rfl
  | n + 1 => by show sg (fun k => f k - g k) n + (f n - g n) = sg f n + f n - (sg g n + g n); rw [sg_sub f g n]; omega
theorem sg_mul (x : Int) (f : Nat → Int) : ∀ n, sg (fun k => x * f k) n = x * sg f n
  | 0 => by show (0 : Int) = x * 0; rw [Int.mul_zero]
  | n + 1 => by show sg (fun k => x * f k) n + x * f n = x * (sg f n + f n); rw [sg_mul x f n, Int.mul_add]
theorem sg_mulr (x : Int) (f : Nat → Int) (n : Nat) : sg (fun k => f k * x) n = sg f n * x := by
  rw [Int.mul_comm, ← sg_mul]; exact sg_congr fun k _ => Int.mul_comm _ _
/-- one term alone -/
theorem sg_one {f : Nat → Int} {i : Nat} : ∀ {n : Nat}, i < n → (∀ k < n, k ≠ i → f k = 0) → sg f n = f i
  | n + 1, hi, h => by
    show sg f n + f n = f i
    by_cases e : i = n
    · subst e; rw [sg_zero fun k hk => h k (by omega) (by omega)]; omega
    · rw [sg_one (i := i) (by omega) fun k hk => h k (by omega), h n (by omega) (by omega)]; omega
/-- two terms alone -/
theorem sg_two {f : Nat → Int} {i j : Nat} (hij : i < j) : ∀ {n : Nat}, j < n → (∀ k < n, k ≠ i → k ≠ j → f k = 0) → sg f n = f i + f j
  | n + 1, hj, h => by
    show sg f n + f n = f i + f j
    by_cases e : j = n
    · subst e; rw [sg_one (i := i) hij fun k hk hk' => h k (by omega) hk' (by omega)]
    · rw [sg_two hij (by omega) fun k hk => h k (by omega), h n (by omega) (by omega) (by omega)]; omega
theorem sg_swap (f : Nat → Nat → Int) (m : Nat) : ∀ n, sg (fun k => sg (fun l => f k l) m) n = sg (fun l => sg (fun k => f k l) n) m
  | 0 => (sg_zero fun _ _ => rfl).symm
  | n + 1 => by
    show sg (fun k => sg (fun l => f k l) m) n + sg (fun l => f n l) m = sg (fun l => sg (fun k => f k l) n + f n l) m
    rw [sg_swap f m n, sg_add]
/-! ### determinants, by columns: C c r -/
abbrev Col := Nat → Int
def cset (C : Nat → Col) (k : Nat) (v : Col) : Nat → Col := fun c => if c = k then v else C c
theorem cset_same (C : Nat → Col) (k : Nat) (v : Col) : cset C k v k = v := by simp [cset]
theorem cset_ne (C : Nat → Col) {k c : Nat} (v : Col) (h : c ≠ k) : cset C k v c = C c := by simp [cset, h]
theorem cset_self (C : Nat → Col) (k : Nat) : cset C k (C k) = C := by
  funext c; unfold cset; split
  · rename_i h; rw [h]
  · rfl
theorem cset_cset (C : Nat → Col) (k : Nat) (u v : Col) : cset (cset C k u) k v = cset C k v := by
  funext c; unfold cset; split <;> rfl
theorem cset_comm (C : Nat → Col) {k l : Nat} (u v : Col) (h : k ≠ l) : cset (cset C k u) l v = cset (cset C l v) k u := by
  funext c; unfold cset
  by_cases h1 : c = k <;> by_cases h2 : c = l <;> simp [h1, h2, h, Ne.symm h]
def sgn (j : Nat) : Int := if j % 2 = 0 then 1 else -1
theorem sgn_succ (j : Nat) : sgn (j + 1) = - sgn j := by
  unfold sgn
  rcases Nat.mod_two_eq_zero_or_one j with h | h
  · rw [if_neg (show ¬ (j + 1) % 2 = 0 by omega), if_pos h]
  · rw [if_pos (show (j + 1) % 2 = 0 by omega), if_neg (show ¬ j % 2 = 0 by omega)]; rfl
def skip (j c : Nat) : Nat := if c < j then c else c + 1
/-- without the row 0 and the column j -/
def minr (C : Nat → Col) (j : Nat) : Nat → Col := fun c r => C (skip j c) (r + 1)
def det : Nat → (Nat → Col) → Int
  | 0, _ => 1
  | m + 1, C => sg (fun j => sgn j * C j 0 * det m (minr C j)) (m + 1)
theorem skip_lt {j c m : Nat} (hc : c < m) : skip j c < m + 1 := by unfold skip; split <;> omega
theorem det_congr : ∀ {m : Nat} {C D : Nat → Col}, (∀ c < m, ∀ r < m, C c r = D c r) → det m C = det m D
  | 0, _, _, _ => rfl
  | m + 1, C, D, h => sg_congr fun j hj => by
    show sgn j * C j 0 * det m (minr C j) = sgn j * D j 0 * det m (minr D j)
    rw [h j hj 0 (by omega), det_congr (m := m) (C := minr C j) (D := minr D j) fun c hc r hr => h _ (skip_lt hc) _ (by omega)]
/-- the place of column k where column j is left out -/
def unskip (j k : Nat) : Nat := if k < j then k else k - 1
theorem minr_set {C : Nat → Col} {j k : Nat} (v : Col) (h : k ≠ j) : minr (cset C k v) j = cset (minr C j) (unskip j k) (fun r => v (r + 1)) := by
  funext c r
  unfold minr cset skip unskip
  by_cases h1 : c < j <;> by_cases h2 : k < j <;> simp only [h1, h2, if_true, if_false]
  · by_cases e : c = k <;> simp [e]
  · have : c ≠ k := by omega
    have : c ≠ k - 1 := by omega
    simp [*]
  · have : c + 1 ≠ k := by omega
    have : c ≠ k := by omega
    simp [*]
  · by_cases e : c + 1 = k
    · have e2 : c = k - 1 := by omega
      rw [if_pos e, if_pos e2]
    · have : c ≠ k - 1 := by omega
      simp [e, this]
theorem minr_self {C : Nat → Col} {k : Nat} (v : Col) : minr (cset C k v) k = minr C k := by
  funext c r
  unfold minr cset skip
  by_cases h1 : c < k <;> simp only [h1, if_true, if_false]
  · rw [if_neg (by omega)]
  · rw [if_neg (by omega)]
/-- linear in each column -/
theorem det_lin (x y : Int) (u v : Col) : ∀ {m k : Nat} (C : Nat → Col), k < m → det m (cset C k (fun r => x * u r + y * v r)) = x * det m (cset C k u) + y * det m (cset C k v)
  | m + 1, k, C, hk => by
    show sg _ (m + 1) = x * sg _ (m + 1) + y * sg _ (m + 1)
    rw [← sg_mul, ← sg_mul, ← sg_add]
    refine sg_congr fun j hj => ?_
    by_cases e : k = j
    · subst e
      rw [minr_self, minr_self, minr_self, cset_same, cset_same, cset_same]
      generalize sgn k = a
      generalize det m (minr C k) = b
      show a * (x * u 0 + y * v 0) * b = x * (a * u 0 * b) + y * (a * v 0 * b)
      rw [Int.mul_add, Int.add_mul]
      congr 1
      · rw [← Int.mul_assoc a x, Int.mul_comm a x, Int.mul_assoc x a, Int.mul_assoc x]
      · rw [← Int.mul_assoc a y, Int.mul_comm a y, Int.mul_assoc y a, Int.mul_assoc y]
    · have hj' : j ≠ k := fun z => e z.symm
      rw [minr_set _ e, minr_set _ e, minr_set _ e, cset_ne _ _ hj', cset_ne _ _ hj', cset_ne _ _ hj']
      have hk' : unskip j k < m := by unfold unskip; split <;> omega
      have ih := det_lin x y (fun r => u (r + 1)) (fun r => v (r + 1)) (minr C j) hk'
      rw [ih]
      generalize sgn j * C j 0 = a
      generalize det m (cset (minr C j) (unskip j k) fun r => u (r + 1)) = p
      generalize det m (cset (minr C j) (unskip j k) fun r => v (r + 1)) = q
      rw [Int.mul_add, ← Int.mul_assoc a x, Int.mul_comm a x, Int.mul_assoc x a, ← Int.mul_assoc a y, Int.mul_comm a y, Int.mul_assoc y a]
/-- two columns side by side that are the same -/
theorem det_adj : ∀ {m k : Nat} {C : Nat → Col}, k + 1 < m → (∀ r < m, C k r = C (k + 1) r) → det m C = 0
  | m + 1, k, C, hk, h => by
    show sg _ (m + 1) = 0
    rw [sg_two (i := k) (j := k + 1) (by omega) hk fun j hj h1 h2 => ?_]
    · have e : det m (minr C k) = det m (minr C (k + 1)) := det_congr fun c hc r hr => by
        unfold minr skip
        by_cases a : c < k
        · rw [if_pos a, if_pos (by omega)]
        · by_cases b : c = k
          · subst b; rw [if_neg (by omega), if_pos (by omega)]; exact (h (r + 1) (by omega)).symm
          · rw [if_neg a, if_neg (by omega)]
      rw [e, sgn_succ, h 0 (by omega)]
      generalize sgn k = a
      generalize C (k + 1) 0 = b
      generalize det m (minr C (k + 1)) = d
      rw [Int.neg_mul, Int.neg_mul]
      omega
    · have z : det m (minr C j) = 0 := by
        by_cases a : k + 1 < j
        · refine det_adj (k := k) (by omega) fun r hr => ?_
          unfold minr skip
          rw [if_pos (by omega), if_pos (by omega)]; exact h (r + 1) (by omega)
        · refine det_adj (k := k - 1) (by omega) fun r hr => ?_
          unfold minr skip
          rw [if_neg (by omega), if_neg (by omega), show k - 1 + 1 = k by omega]; exact h (r + 1) (by omega)
      rw [z, Int.mul_zero]
def cswap (C : Nat → Col) (k : Nat) : Nat → Col := cset (cset C k (C (k + 1))) (k + 1) (C k)
theorem det_swap {m k : Nat} {C : Nat → Col} (hk : k + 1 < m) : det m (cswap C k) = - det m C := by
  have lin : ∀ (a b u v : Col), det m (cset (cset C k (fun r => 1 * a r + 1 * b r)) (k + 1) (fun r => 1 * u r + 1 * v r)) = det m (cset (cset C k a) (k + 1) u) + det m (cset (cset C k a) (k + 1) v) + (det m (cset (cset C k b) (k + 1) u) + det m (cset (cset C k b) (k + 1) v)) := fun a b u v => by
    have f : ∀ w z : Col, cset (cset C (k + 1) w) k z = cset (cset C k z) (k + 1) w := fun w z => cset_comm _ _ _ (by omega)
    rw [← f, det_lin 1 1 a b _ (by omega : k < m), f, f, det_lin 1 1 u v _ hk, det_lin 1 1 u v _ hk]
    omega
  have same : ∀ u : Col, det m (cset (cset C k u) (k + 1) u) = 0 := fun u => det_adj hk fun r _ => by
    rw [cset_same, cset_ne _ _ (by omega), cset_same]
  have e := lin (C k) (C (k + 1)) (C k) (C (k + 1))
  rw [same, same, same] at e
  have e1 : cset (cset C k (C k)) (k + 1) (C (k + 1)) = C := by rw [cset_self, cset_self]
  rw [e1] at e
  show det m (cset (cset C k (C (k + 1))) (k + 1) (C k)) = _
  omega
/-- two columns that are the same -/
theorem det_alt : ∀ (n : Nat) {m p q : Nat} {C : Nat → Col}, q = p + 1 + n → q < m → (∀ r < m, C p r = C q r) → det m C = 0
  | 0, m, p, q, C, e, hq, h => by subst e; exact det_adj hq h
  | n + 1, m, p, q, C, e, hq, h => by
    have hs := det_swap (m := m) (k := q - 1) (C := C) (by omega)
    have e1 : q - 1 + 1 = q := by omega
    have z : det m (cswap C (q - 1)) = 0 := by
      refine det_alt n (p := p) (q := q - 1) (by omega) (by omega) fun r hr => ?_
      unfold cswap
      rw [e1, cset_ne _ _ (by omega), cset_ne _ _ (by omega), cset_ne _ _ (by omega), cset_same]
      exact h r hr
    omega
theorem det_eqc {m k l : Nat} {C : Nat → Col} (hk : k < m) (hl : l < m) (h : k ≠ l) : det m (cset C k (C l)) = 0 := by
  rcases Nat.lt_or_ge k l with a | a
  · exact det_alt (l - k - 1) (p := k) (q := l) (by omega) hl fun r _ => by rw [cset_same, cset_ne _ _ (by omega)]
  · exact det_alt (k - l - 1) (p := l) (q := k) (by omega) hk fun r _ => by rw [cset_same, cset_ne _ _ (by omega)]
theorem det_zero {m k : Nat} {C : Nat → Col} (hk : k < m) : det m (cset C k fun _ => 0) = 0 := by
  have := det_lin 0 0 (fun _ => 0) (fun _ => 0) C hk
  simpa using this
/-- linear in a sum -/
theorem det_sg {m k : Nat} {C : Nat → Col} (hk : k < m) (x : Nat → Int) (V : Nat → Col) : ∀ n, det m (cset C k fun r => sg (fun l => x l * V l r) n) = sg (fun l => x l * det m (cset C k (V l))) n
  | 0 => det_zero hk
  | n + 1 => by
    have e : (fun r => sg (fun l => x l * V l r) (n + 1)) = fun r => 1 * sg (fun l => x l * V l r) n + x n * V n r := by
      funext r; show _ + _ = _; rw [Int.one_mul]
    rw [e, det_lin 1 (x n) (fun r => sg (fun l => x l * V l r) n) (V n) C hk, det_sg hk x V n, Int.one_mul]; rfl
def unitC : Nat → Col := fun c r => if c = r then 1 else 0
theorem det_unit : ∀ m, det m unitC = 1
  | 0 => rfl
  | m + 1 => by
    show sg _ (m + 1) = 1
    rw [sg_one (i := 0) (by omega) fun j hj h => by show sgn j * (if j = 0 then 1 else 0) * _ = 0; rw [if_neg h]; simp]
    have e : det m (minr unitC 0) = det m unitC := det_congr fun c _ r _ => by
      unfold minr skip unitC
      rw [if_neg (Nat.not_lt_zero c)]
      by_cases z : c = r <;> simp [z]
    rw [e, det_unit m]; rfl

/-! ### tableaus over integers -/
theorem det_swp {m i s : Nat} {B : Nat → Col} (hi : i < m) (hs : s < m) (h : i ≠ s) : det m (cset (cset B s (B i)) i (B s)) = - det m B := by
  have lin : ∀ (u v : Col), det m (cset (cset B s (fun r => 1 * u r + 1 * v r)) i (fun r => 1 * u r + 1 * v r)) = det m (cset (cset B s u) i u) + det m (cset (cset B s u) i v) + (det m (cset (cset B s v) i u) + det m (cset (cset B s v) i v)) := fun u v => by
    have f : ∀ w z : Col, cset (cset B i w) s z = cset (cset B s z) i w := fun w z => cset_comm _ _ _ h
    rw [← f, det_lin 1 1 u v _ hs, f, f, det_lin 1 1 u v _ hi, det_lin 1 1 u v _ hi]
    omega
  have same : ∀ u : Col, det m (cset (cset B s u) i u) = 0 := fun u => by
    have := det_eqc (C := cset B s u) hi hs h
    rwa [cset_same] at this
  have e := lin (B i) (B s)
  rw [same, same, same] at e
  have e1 : cset (cset B s (B s)) i (B i) = B := by rw [cset_self, cset_self]
  rw [e1] at e
  omega
structure Tab (m n : Nat) (A : Nat → Col) (c : Nat → Int) (b : Nat → Nat) (g : Nat → Nat → Int) (z : Nat → Int) (d : Int) : Prop where
  bd : ∀ i < m, b i < n + m
  dp : 0 < d
  dt : d = det m fun i => A (b i)
  r2 : ∀ l < m, ∀ l' < m, sg (fun k => A (b k) l * g k (n + l')) m = if l = l' then d else 0
  g1 : ∀ i < m, ∀ j ≤ n + m, g i j = sg (fun k => g i (n + k) * A j k) m
  g2 : ∀ j ≤ n + m, z j = d * c j - sg (fun i => c (b i) * g i j) m
section
variable {m n : Nat} {A : Nat → Col} {c : Nat → Int} {b : Nat → Nat} {g : Nat → Nat → Int} {z : Nat → Int} {d : Int}
/-- a column is a sum of the basis's columns -/
theorem Tab.span (T : Tab m n A c b g z d) {j : Nat} (hj : j ≤ n + m) {l : Nat} (hl : l < m) : d * A j l = sg (fun k => g k j * A (b k) l) m := by
  have e : ∀ k < m, g k j * A (b k) l = sg (fun l' => A (b k) l * g k (n + l') * A j l') m := fun k hk => by
    rw [T.g1 k hk j hj, ← sg_mulr]
    exact sg_congr fun l' _ => by rw [Int.mul_comm (A (b k) l), Int.mul_assoc, Int.mul_assoc, Int.mul_comm (A j l')]
  rw [sg_congr e, sg_swap]
  have e2 : ∀ l' < m, sg (fun k => A (b k) l * g k (n + l') * A j l') m = if l = l' then d * A j l' else 0 := fun l' hl' => by
    rw [sg_mulr, T.r2 l hl l' hl']
    split <;> simp
  rw [sg_congr e2, sg_one (i := l) hl fun k _ h => if_neg (Ne.symm h), if_pos rfl]
theorem Tab.detj (T : Tab m n A c b g z d) {i j : Nat} (hi : i < m) (hj : j ≤ n + m) : det m (cset (fun k => A (b k)) i (A j)) = g i j := by
  have e1 : det m (cset (fun k => A (b k)) i (fun r => d * A j r + 0 * A j r)) = d * det m (cset (fun k => A (b k)) i (A j)) := by
    rw [det_lin d 0 (A j) (A j) _ hi]; omega
  have e2 : det m (cset (fun k => A (b k)) i (fun r => d * A j r + 0 * A j r)) = det m (cset (fun k => A (b k)) i fun r => sg (fun k => g k j * A (b k) r) m) := det_congr fun k _ r hr => by
    by_cases h : k = i
    · subst h; rw [cset_same, cset_same, ← T.span hj hr]; omega
    · rw [cset_ne _ _ h, cset_ne _ _ h]
  rw [e1, det_sg hi, sg_one (i := i) hi fun k hk h => by
    have := det_eqc (C := fun k => A (b k)) hi hk (Ne.symm h)
    rw [this, Int.mul_zero]] at e2
  have e3 : cset (fun k => A (b k)) i (A (b i)) = fun k => A (b k) := cset_self (fun k => A (b k)) i
  rw [e3, ← T.dt, Int.mul_comm] at e2
  have := T.dp
  exact Int.eq_of_mul_eq_mul_right (by omega) e2
theorem Tab.unit (T : Tab m n A c b g z d) {i k : Nat} (hi : i < m) (hk : k < m) : g i (b k) = if i = k then d else 0 := by
  rw [← T.detj hi (Nat.le_of_lt (T.bd k hk))]
  split
  · rename_i h; subst h
    rw [show cset (fun k => A (b k)) i (A (b i)) = fun k => A (b k) from cset_self (fun k => A (b k)) i, ← T.dt]
  · rename_i h
    exact det_eqc (C := fun k => A (b k)) hi hk h
theorem Tab.zunit (T : Tab m n A c b g z d) {k : Nat} (hk : k < m) : z (b k) = 0 := by
  rw [T.g2 _ (Nat.le_of_lt (T.bd k hk)), sg_one (i := k) hk fun i hi h => by rw [T.unit hi hk, if_neg h, Int.mul_zero], T.unit hk hk, if_pos rfl, Int.mul_comm]; omega
/-- the pivoted tableau, before the division -/
def pvN (g : Nat → Nat → Int) (s q : Nat) (i j : Nat) : Int := g i j * g s q - g i q * g s j
def pvG (g : Nat → Nat → Int) (d : Int) (s q : Nat) (i j : Nat) : Int := if i = s then g s j else pvN g s q i j / d
def pvZ (z : Nat → Int) (g : Nat → Nat → Int) (d : Int) (s q : Nat) (j : Nat) : Int := (z j * g s q - z q * g s j) / d
def pvB (b : Nat → Nat) (s q : Nat) (i : Nat) : Nat := if i = s then q else b i
theorem pvB_cols (s q : Nat) : (fun k => A (pvB b s q k)) = cset (fun k => A (b k)) s (A q) := by
  funext k; unfold pvB cset; split <;> rfl
theorem Tab.exact (T : Tab m n A c b g z d) {s q : Nat} (hs : s < m) (hq : q < n + m) {i j : Nat} (hi : i < m) (his : i ≠ s) (hj : j ≤ n + m) :
    pvN g s q i j = d * det m (cset (fun k => A (pvB b s q k)) i (A j)) := by
  have hq' := Nat.le_of_lt hq
  rw [pvB_cols]
  have dp := T.dp
  -- the column B_s in the place i
  have hbs : det m (cset (cset (fun k => A (b k)) s (A q)) i (A (b s))) = - g i q := by
    have e1 : det m (cset (cset (fun k => A (b k)) i (A (b s))) s (fun r => d * A q r + 0 * A q r)) = d * det m (cset (cset (fun k => A (b k)) i (A (b s))) s (A q)) := by
      rw [det_lin d 0 (A q) (A q) _ hs]; omega
    have e2 : det m (cset (cset (fun k => A (b k)) i (A (b s))) s (fun r => d * A q r + 0 * A q r)) = det m (cset (cset (fun k => A (b k)) i (A (b s))) s fun r => sg (fun k => g k q * A (b k) r) m) := det_congr fun k _ r hr => by
      by_cases h : k = s
      · subst h; rw [cset_same, cset_same, ← T.span hq' hr]; omega
      · rw [cset_ne _ _ h, cset_ne _ _ h]
    rw [e1, det_sg hs, sg_one (i := i) hi fun k hk h => ?_] at e2
    · have e3 : det m (cset (cset (fun k => A (b k)) i (A (b s))) s (A (b i))) = -d := by
        rw [cset_comm _ _ _ his]
        have := det_swp (B := fun k => A (b k)) hi hs his
        rw [← T.dt] at this
        exact this
      rw [e3] at e2
      rw [cset_comm _ _ _ (Ne.symm his)]
      have e4 : d * det m (cset (cset (fun k => A (b k)) i (A (b s))) s (A q)) = d * (- g i q) := by rw [e2, Int.mul_neg, Int.mul_neg, Int.mul_comm]
      exact Int.eq_of_mul_eq_mul_left (by omega) e4
    · by_cases hks : k = s
      · subst hks
        have : cset (cset (fun k => A (b k)) i (A (b k))) k (A (b k)) = cset (fun k => A (b k)) i (A (b k)) := by
          rw [cset_comm _ _ _ his, show cset (fun k => A (b k)) k (A (b k)) = fun k => A (b k) from cset_self (fun k => A (b k)) k]
        rw [this, det_eqc (C := fun k => A (b k)) hi hk (Ne.symm h), Int.mul_zero]
      · have := det_eqc (C := cset (fun k => A (b k)) i (A (b s))) hs hk (Ne.symm hks)
        rw [cset_ne _ _ h] at this
        rw [this, Int.mul_zero]
  have e1 : det m (cset (cset (fun k => A (b k)) s (A q)) i (fun r => d * A j r + 0 * A j r)) = d * det m (cset (cset (fun k => A (b k)) s (A q)) i (A j)) := by
    rw [det_lin d 0 (A j) (A j) _ hi]; omega
  have e2 : det m (cset (cset (fun k => A (b k)) s (A q)) i (fun r => d * A j r + 0 * A j r)) = det m (cset (cset (fun k => A (b k)) s (A q)) i fun r => sg (fun k => g k j * A (b k) r) m) := det_congr fun k _ r hr => by
    by_cases h : k = i
    · subst h; rw [cset_same, cset_same, ← T.span hj hr]; omega
    · rw [cset_ne _ _ h, cset_ne _ _ h]
  rw [← e1, e2, det_sg hi]
  have hii : det m (cset (cset (fun k => A (b k)) s (A q)) i (A (b i))) = g s q := by
    rw [cset_comm _ _ _ (Ne.symm his), show cset (fun k => A (b k)) i (A (b i)) = fun k => A (b k) from cset_self (fun k => A (b k)) i, T.detj hs hq']
  have oth : ∀ k < m, k ≠ i → k ≠ s → g k j * det m (cset (cset (fun k => A (b k)) s (A q)) i (A (b k))) = 0 := fun k hk h1 h2 => by
    have := det_eqc (C := cset (fun k => A (b k)) s (A q)) hi hk (Ne.symm h1)
    rw [cset_ne _ _ h2] at this
    rw [this, Int.mul_zero]
  unfold pvN
  rcases Nat.lt_or_ge i s with h | h
  · rw [sg_two h hs oth, hii, hbs, Int.mul_neg, Int.mul_comm (g s j)]; omega
  · rw [sg_two (i := s) (j := i) (by omega) hi fun k hk h1 h2 => oth k hk h2 h1, hii, hbs, Int.mul_neg, Int.mul_comm (g s j)]; omega
theorem Tab.pv_row (T : Tab m n A c b g z d) {s q : Nat} (hs : s < m) (hq : q < n + m) {i j : Nat} (hi : i < m) (hj : j ≤ n + m) :
    pvG g d s q i j = det m (cset (fun k => A (pvB b s q k)) i (A j)) := by
  unfold pvG
  split
  · rename_i h; subst h
    rw [pvB_cols, cset_cset, T.detj hs hj]
  · rename_i h
    have dp := T.dp
    rw [T.exact hs hq hi h hj, Int.mul_ediv_cancel_left _ (by omega)]
theorem Tab.pv_ex (T : Tab m n A c b g z d) {s q : Nat} (hs : s < m) (hq : q < n + m) {i j : Nat} (hi : i < m) (his : i ≠ s) (hj : j ≤ n + m) : d * pvG g d s q i j = pvN g s q i j := by
  rw [T.pv_row hs hq hi hj, ← T.exact hs hq hi his hj]
/-- the sum over the rows of the pivoted tableau -/
theorem Tab.pv_sum (T : Tab m n A c b g z d) {s q : Nat} (hs : s < m) (hq : q < n + m) {j : Nat} (hj : j ≤ n + m) (w : Nat → Int) :
    d * sg (fun k => w (pvB b s q k) * pvG g d s q k j) m = w q * (d * g s j) + (sg (fun k => w (b k) * g k j) m * g s q - sg (fun k => w (b k) * g k q) m * g s j) := by
  have e : ∀ k < m, d * (w (pvB b s q k) * pvG g d s q k j) = (if k = s then w q * (d * g s j) else 0) + (w (b k) * g k j * g s q - w (b k) * g k q * g s j) := fun k hk => by
    by_cases h : k = s
    · subst h
      unfold pvB pvG
      rw [if_pos rfl, if_pos rfl, if_pos rfl, ← Int.mul_assoc, Int.mul_comm d, Int.mul_assoc, Int.mul_assoc, Int.mul_assoc, Int.mul_comm (g k j) (g k q)]
      omega
    · have := T.pv_ex hs hq hk h hj
      unfold pvB
      rw [if_neg h, if_neg h, ← Int.mul_assoc, Int.mul_comm d, Int.mul_assoc, this]
      unfold pvN
      rw [Int.mul_sub, Int.mul_assoc, Int.mul_assoc]; omega
  rw [← sg_mul, sg_congr e, sg_add, sg_sub, sg_mulr, sg_mulr, sg_one (i := s) hs fun k _ h => if_neg h, if_pos rfl]
theorem Tab.pivot (T : Tab m n A c b g z d) (hA : ∀ l < m, ∀ r < m, A (n + l) r = unitC l r) {s q : Nat} (hs : s < m) (hq : q < n + m) (hp : 0 < g s q) :
    Tab m n A c (pvB b s q) (pvG g d s q) (pvZ z g d s q) (g s q) where
  bd := fun i hi => by unfold pvB; split; exact hq; exact T.bd i hi
  dp := hp
  dt := by rw [pvB_cols, T.detj hs (Nat.le_of_lt hq)]
  r2 := fun l hl l' hl' => by
    have dp := T.dp
    have e := T.pv_sum hs hq (j := n + l') (by omega) (fun x => A x l)
    have e1 : sg (fun k => A (b k) l * g k (n + l')) m = if l = l' then d else 0 := T.r2 l hl l' hl'
    have e2 : sg (fun k => A (b k) l * g k q) m = d * A q l := by
      rw [T.span (Nat.le_of_lt hq) hl]; exact sg_congr fun k _ => Int.mul_comm _ _
    rw [e1, e2] at e
    have e3 : A q l * (d * g s (n + l')) = d * A q l * g s (n + l') := by rw [← Int.mul_assoc, Int.mul_comm (A q l)]
    rw [e3] at e
    have e4 : d * sg (fun k => A (pvB b s q k) l * pvG g d s q k (n + l')) m = d * (if l = l' then g s q else 0) := by
      rw [e]
      by_cases h : l = l'
      · rw [if_pos h, if_pos h]; omega
      · rw [if_neg h, if_neg h, Int.zero_mul, Int.mul_zero]; omega
    exact Int.eq_of_mul_eq_mul_left (by omega) e4
  g1 := fun i hi j hj => by
    rw [T.pv_row hs hq hi hj]
    have e : det m (cset (fun k => A (pvB b s q k)) i (A j)) = det m (cset (fun k => A (pvB b s q k)) i fun r => sg (fun k => A j k * unitC k r) m) := det_congr fun k _ r hr => by
      by_cases h : k = i
      · subst h
        rw [cset_same, cset_same, sg_one (i := r) hr fun k _ h => by unfold unitC; rw [if_neg h, Int.mul_zero]]
        unfold unitC; rw [if_pos rfl, Int.mul_one]
      · rw [cset_ne _ _ h, cset_ne _ _ h]
    rw [e, det_sg hi]
    refine sg_congr fun k hk => ?_
    rw [T.pv_row hs hq hi (by omega), Int.mul_comm]
    congr 1
    refine det_congr fun k' _ r hr => ?_
    by_cases h : k' = i
    · subst h; rw [cset_same, cset_same, hA k hk r hr]
    · rw [cset_ne _ _ h, cset_ne _ _ h]
  g2 := fun j hj => by
    have dp := T.dp
    have e := T.pv_sum hs hq hj c
    have z1 := T.g2 j hj
    have z2 := T.g2 q (Nat.le_of_lt hq)
    unfold pvZ
    have key : z j * g s q - z q * g s j = d * (g s q * c j - sg (fun i => c (pvB b s q i) * pvG g d s q i j) m) := by
      rw [Int.mul_sub, e, z1, z2, Int.sub_mul, Int.sub_mul]
      have a1 : d * (g s q * c j) = d * c j * g s q := by rw [Int.mul_assoc, Int.mul_comm (c j)]
      have a2 : c q * (d * g s j) = d * c q * g s j := by rw [← Int.mul_assoc, Int.mul_comm (c q)]
      rw [a1, a2]
      omega
    rw [key, Int.mul_ediv_cancel_left _ (by omega)]
theorem Tab.pv_exz (T : Tab m n A c b g z d) (hA : ∀ l < m, ∀ r < m, A (n + l) r = unitC l r) {s q : Nat} (hs : s < m) (hq : q < n + m) (hp : 0 < g s q) {j : Nat} (hj : j ≤ n + m) : d * pvZ z g d s q j = z j * g s q - z q * g s j := by
  have dp := T.dp
  have e := T.pv_sum hs hq hj c
  rw [(T.pivot hA hs hq hp).g2 j hj, Int.mul_sub, e, T.g2 j hj, T.g2 q (Nat.le_of_lt hq), Int.sub_mul, Int.sub_mul]
  have a1 : d * (g s q * c j) = d * c j * g s q := by rw [Int.mul_assoc, Int.mul_comm (c j)]
  have a2 : c q * (d * g s j) = d * c q * g s j := by rw [← Int.mul_assoc, Int.mul_comm (c q)]
  rw [a1, a2]
  omega
end

/-! ### the least index first: no basis comes again -/
structure Ps where
  b : Nat → Nat
  g : Nat → Nat → Int
  z : Nat → Int
  d : Int
def Ps.pv (σ : Ps) (s q : Nat) : Ps := ⟨pvB σ.b s q, pvG σ.g σ.d s q, pvZ σ.z σ.g σ.d s q, σ.g s q⟩
/-- q is the first column below 0 -/
structure Ent (N : Nat) (z : Nat → Int) (q : Nat) : Prop where
  lt : q < N
  ng : z q < 0
  fst : ∀ j < q, 0 ≤ z j
/-- the row s of the least ratio, and the least basis index among these -/
structure Lvs (m R : Nat) (σ : Ps) (s q : Nat) : Prop where
  lt : s < m
  ps : 0 < σ.g s q
  mn : ∀ i < m, 0 < σ.g i q → σ.g s R * σ.g i q < σ.g i R * σ.g s q ∨ (σ.g s R * σ.g i q = σ.g i R * σ.g s q ∧ σ.b s ≤ σ.b i)
abbrev TabP (m n : Nat) (A : Nat → Col) (c : Nat → Int) (σ : Ps) : Prop := Tab m n A c σ.b σ.g σ.z σ.d
def Fea (m R : Nat) (σ : Ps) : Prop := ∀ i < m, 0 ≤ σ.g i R
structure Prob (m n : Nat) (A : Nat → Col) (c : Nat → Int) : Prop where
  u : ∀ l < m, ∀ r < m, A (n + l) r = unitC l r
  c0 : ∀ l < m, c (n + l) = 0
structure Stp (m n : Nat) (σ τ : Ps) (s q : Nat) : Prop where
  e : Ent (n + m) σ.z q
  l : Lvs m (n + m) σ s q
  p : τ = σ.pv s q
section
variable {m n : Nat} {A : Nat → Col} {c : Nat → Int} {σ τ : Ps} {s q : Nat}
theorem Stp.tab (P : Prob m n A c) (S : Stp m n σ τ s q) (T : TabP m n A c σ) : TabP m n A c τ := by
  rw [S.p]; exact T.pivot P.u S.l.lt S.e.lt S.l.ps
theorem Stp.row (S : Stp m n σ τ s q) (T : TabP m n A c σ) {i j : Nat} (hi : i < m) (his : i ≠ s) (hj : j ≤ n + m) : σ.d * τ.g i j = σ.g i j * σ.g s q - σ.g i q * σ.g s j := by
  rw [S.p]; exact T.pv_ex S.l.lt S.e.lt hi his hj
theorem Stp.row_s (S : Stp m n σ τ s q) {j : Nat} : τ.g s j = σ.g s j := by
  rw [S.p]; show pvG σ.g σ.d s q s j = _; unfold pvG; rw [if_pos rfl]
theorem Stp.bas (S : Stp m n σ τ s q) (i : Nat) : τ.b i = if i = s then q else σ.b i := by rw [S.p]; rfl
theorem Stp.fea (S : Stp m n σ τ s q) (T : TabP m n A c σ) (F : Fea m (n + m) σ) : Fea m (n + m) τ := fun i hi => by
  by_cases h : i = s
  · subst h; rw [S.row_s]; exact F i hi
  · have dp := T.dp
    have e := S.row T hi h (Nat.le_refl _)
    have nn : 0 ≤ σ.g i (n + m) * σ.g s q - σ.g i q * σ.g s (n + m) := by
      by_cases hp : 0 < σ.g i q
      · have := S.l.mn i hi hp
        rw [Int.mul_comm (σ.g s (n + m))] at this
        omega
      · have h1 : 0 ≤ σ.g i (n + m) * σ.g s q := Int.mul_nonneg (F i hi) (Int.le_of_lt S.l.ps)
        have h2 : 0 ≤ (- σ.g i q) * σ.g s (n + m) := Int.mul_nonneg (by omega) (F s S.l.lt)
        rw [Int.neg_mul] at h2
        omega
    rw [← e] at nn
    exact Int.nonneg_of_mul_nonneg_right nn dp
theorem TabP.inj (T : TabP m n A c σ) {i k : Nat} (hi : i < m) (hk : k < m) (h : σ.b i = σ.b k) : i = k := by
  have a := T.unit hi hi
  have b := T.unit hi hk
  rw [if_pos rfl] at a
  have e : σ.g i (σ.b i) = σ.g i (σ.b k) := by rw [h]
  rw [a, b] at e
  have := T.dp
  split at e
  · assumption
  · omega
/-- the tableau is told by its basis -/
theorem TabP.same (T : TabP m n A c σ) (U : TabP m n A c τ) (h : ∀ i < m, σ.b i = τ.b i) : σ.d = τ.d ∧ (∀ i < m, ∀ j ≤ n + m, σ.g i j = τ.g i j) ∧ ∀ j ≤ n + m, σ.z j = τ.z j := by
  have hd : σ.d = τ.d := by rw [T.dt, U.dt]; exact det_congr fun k hk r _ => by rw [h k hk]
  have hg : ∀ i < m, ∀ j ≤ n + m, σ.g i j = τ.g i j := fun i hi j hj => by
    rw [← T.detj hi hj, ← U.detj hi hj]
    exact det_congr fun k hk r _ => by
      by_cases e : k = i
      · subst e; rw [cset_same, cset_same]
      · rw [cset_ne _ _ e, cset_ne _ _ e, h k hk]
  exact ⟨hd, hg, fun j hj => by rw [T.g2 j hj, U.g2 j hj, hd, sg_congr fun i hi => by rw [h i hi, hg i hi j hj]]⟩
def isB (m : Nat) (σ : Ps) (j : Nat) : Prop := ∃ i < m, σ.b i = j
theorem Stp.newB (S : Stp m n σ τ s q) : isB m τ q := ⟨s, S.l.lt, by rw [S.bas, if_pos rfl]⟩
theorem TabP.notB (T : TabP m n A c σ) {j : Nat} (h : σ.z j ≠ 0) : ¬ isB m σ j := by
  rintro ⟨i, hi, rfl⟩
  exact h (T.zunit hi)
theorem Stp.oldB (S : Stp m n σ τ s q) {j : Nat} (h : isB m σ j) (hj : j ≠ σ.b s) : isB m τ j := by
  obtain ⟨i, hi, rfl⟩ := h
  exact ⟨i, hi, by rw [S.bas, if_neg fun e => hj (by rw [e])]⟩
theorem Stp.backB (S : Stp m n σ τ s q) {j : Nat} (h : isB m τ j) (hj : j ≠ q) : isB m σ j := by
  obtain ⟨i, hi, e⟩ := h
  rw [S.bas] at e
  split at e
  · exact absurd e.symm hj
  · exact ⟨i, hi, e⟩
/-- the value of j is 0 -/
def isZ (m R : Nat) (σ : Ps) (j : Nat) : Prop := ∀ i < m, σ.b i = j → σ.g i R = 0
theorem Stp.zero (S : Stp m n σ τ s q) (T : TabP m n A c σ) (hz : σ.g s (n + m) = 0) (j : Nat) : isZ m (n + m) σ j ↔ isZ m (n + m) τ j := by
  have dp := T.dp
  have key : ∀ i < m, i ≠ s → (σ.g i (n + m) = 0 ↔ τ.g i (n + m) = 0) := fun i hi h => by
    have e := S.row T hi h (Nat.le_refl _)
    rw [hz, Int.mul_zero, Int.sub_zero] at e
    have pp := S.l.ps
    constructor
    · intro z; rw [z, Int.zero_mul] at e
      rcases Int.mul_eq_zero.mp e with h | h <;> omega
    · intro z; rw [z, Int.mul_zero] at e
      rcases Int.mul_eq_zero.mp e.symm with h | h <;> omega
  constructor
  · intro h i hi e
    rw [S.bas] at e
    by_cases his : i = s
    · subst his; rw [S.row_s]; exact hz
    · rw [if_neg his] at e
      exact (key i hi his).mp (h i hi e)
  · intro h i hi e
    by_cases his : i = s
    · subst his; exact hz
    · exact (key i hi his).mpr (h i hi (by rw [S.bas, if_neg his, e]))
/-- the objective row by its slack part -/
theorem TabP.obj (P : Prob m n A c) (T : TabP m n A c σ) {j : Nat} (hj : j ≤ n + m) : σ.z j = σ.d * c j + sg (fun k => σ.z (n + k) * A j k) m := by
  have e : ∀ k < m, σ.z (n + k) * A j k = - sg (fun i => c (σ.b i) * σ.g i (n + k) * A j k) m := fun k hk => by
    rw [T.g2 (n + k) (by omega), P.c0 k hk, sg_mulr, Int.mul_zero, Int.zero_sub, Int.neg_mul]
  have neg : ∀ (f : Nat → Int) (k : Nat), sg (fun i => - f i) k = - sg f k := fun f k => by
    induction k with
    | zero => rfl
    | succ k ih => show sg (fun i => - f i) k + (- f k) = - (sg f k + f k); rw [ih]; omega
  rw [T.g2 j hj, sg_congr e, neg, sg_swap]
  have e2 : ∀ i < m, sg (fun k => c (σ.b i) * σ.g i (n + k) * A j k) m = c (σ.b i) * σ.g i j := fun i hi => by
    rw [T.g1 i hi j hj, ← sg_mul]
    exact sg_congr fun k _ => Int.mul_assoc _ _ _
  rw [sg_congr e2]
  omega
/-- two tableaus of one problem -/
theorem TabP.two (P : Prob m n A c) (T : TabP m n A c σ) (U : TabP m n A c τ) {q : Nat} (hq : q < n + m) : τ.d * σ.z q - sg (fun i => τ.g i q * σ.z (τ.b i)) m = σ.d * τ.z q := by
  have hq' := Nat.le_of_lt hq
  have e : ∀ i < m, τ.g i q * σ.z (τ.b i) = σ.d * (c (τ.b i) * τ.g i q) + sg (fun k => σ.z (n + k) * (τ.g i q * A (τ.b i) k)) m := fun i hi => by
    rw [T.obj P (Nat.le_of_lt (U.bd i hi)), Int.mul_add, ← sg_mul]
    congr 1
    · rw [← Int.mul_assoc, Int.mul_comm (τ.g i q), Int.mul_assoc, Int.mul_comm (τ.g i q)]
    · exact sg_congr fun k _ => by rw [← Int.mul_assoc, Int.mul_comm (τ.g i q), Int.mul_assoc]
  rw [sg_congr e, sg_add, sg_mul, sg_swap]
  have e2 : ∀ k < m, sg (fun i => σ.z (n + k) * (τ.g i q * A (τ.b i) k)) m = σ.z (n + k) * (τ.d * A q k) := fun k hk => by
    rw [sg_mul, U.span hq' hk]
  rw [sg_congr e2, T.obj P hq', U.g2 q hq', Int.mul_add, Int.mul_sub]
  have e3 : τ.d * sg (fun k => σ.z (n + k) * A q k) m = sg (fun k => σ.z (n + k) * (τ.d * A q k)) m := by
    rw [← sg_mul]; exact sg_congr fun k _ => by rw [← Int.mul_assoc, Int.mul_comm τ.d, Int.mul_assoc]
  have e4 : τ.d * (σ.d * c q) = σ.d * (τ.d * c q) := by rw [← Int.mul_assoc, Int.mul_comm τ.d, Int.mul_assoc]
  rw [e3, e4]
  omega
end
theorem sg_pos {f : Nat → Int} : ∀ {m : Nat}, 0 < sg f m → ∃ i < m, 0 < f i
  | 0, h => absurd h (by show ¬ (0 : Int) < 0; omega)
  | m + 1, h => by
    by_cases a : 0 < f m
    · exact ⟨m, by omega, a⟩
    · obtain ⟨i, hi, e⟩ := sg_pos (f := f) (m := m) (by have : 0 < sg f m + f m := h; omega)
      exact ⟨i, by omega, e⟩
/-- a run of steps -/
structure Runs (m n : Nat) (A : Nat → Col) (c : Nat → Int) (σ : Nat → Ps) (s q : Nat → Nat) (L : Nat) : Prop where
  t : TabP m n A c (σ 0)
  f : Fea m (n + m) (σ 0)
  st : ∀ i < L, Stp m n (σ i) (σ (i + 1)) (s i) (q i)
section
variable {m n L : Nat} {A : Nat → Col} {c : Nat → Int} {σ : Nat → Ps} {s q : Nat → Nat}
theorem Runs.tab (P : Prob m n A c) (R : Runs m n A c σ s q L) : ∀ i, i ≤ L → TabP m n A c (σ i)
  | 0, _ => R.t
  | i + 1, h => (R.st i (by omega)).tab P (R.tab P i (by omega))
theorem Runs.fea (P : Prob m n A c) (R : Runs m n A c σ s q L) : ∀ i, i ≤ L → Fea m (n + m) (σ i)
  | 0, _ => R.f
  | i + 1, h => (R.st i (by omega)).fea (R.tab P i (by omega)) (R.fea P i (by omega))
/-- the objective never grows less -/
theorem le_tr {a b e d1 d2 d3 : Int} (p1 : 0 < d1) (p2 : 0 < d2) (p3 : 0 < d3) (h1 : a * d2 ≤ b * d1) (h2 : b * d3 ≤ e * d2) : a * d3 ≤ e * d1 := by
  have x1 : a * d2 * d3 ≤ b * d1 * d3 := Int.mul_le_mul_of_nonneg_right h1 (Int.le_of_lt p3)
  have x2 : b * d3 * d1 ≤ e * d2 * d1 := Int.mul_le_mul_of_nonneg_right h2 (Int.le_of_lt p1)
  have y1 : a * d2 * d3 = a * d3 * d2 := by rw [Int.mul_assoc, Int.mul_comm d2, ← Int.mul_assoc]
  have y2 : b * d1 * d3 = b * d3 * d1 := by rw [Int.mul_assoc, Int.mul_comm d1, ← Int.mul_assoc]
  have y3 : e * d2 * d1 = e * d1 * d2 := by rw [Int.mul_assoc, Int.mul_comm d2, ← Int.mul_assoc]
  have : a * d3 * d2 ≤ e * d1 * d2 := by omega
  exact Int.le_of_mul_le_mul_right this p2
theorem Runs.grow (P : Prob m n A c) (R : Runs m n A c σ s q L) {i : Nat} (hi : i < L) : (σ i).z (n + m) * (σ (i + 1)).d ≤ (σ (i + 1)).z (n + m) * (σ i).d ∧ ((σ i).z (n + m) * (σ (i + 1)).d = (σ (i + 1)).z (n + m) * (σ i).d → (σ i).g (s i) (n + m) = 0) := by
  have S := R.st i hi
  have T := R.tab P i (by omega)
  have e := T.pv_exz P.u S.l.lt S.e.lt S.l.ps (Nat.le_refl (n + m))
  have hz : (σ (i + 1)).z = pvZ (σ i).z (σ i).g (σ i).d (s i) (q i) := by rw [S.p]; rfl
  have hd : (σ (i + 1)).d = (σ i).g (s i) (q i) := by rw [S.p]; rfl
  rw [hz, hd, Int.mul_comm (pvZ _ _ _ _ _ _), e]
  have ng := S.e.ng
  have nn := R.fea P i (by omega) (s i) S.l.lt
  have pr : 0 ≤ (- (σ i).z (q i)) * (σ i).g (s i) (n + m) := Int.mul_nonneg (by omega) nn
  rw [Int.neg_mul] at pr
  refine ⟨by omega, fun h => ?_⟩
  have : (σ i).z (q i) * (σ i).g (s i) (n + m) = 0 := by omega
  rcases Int.mul_eq_zero.mp this with h | h
  · omega
  · exact h
theorem Runs.mono (P : Prob m n A c) (R : Runs m n A c σ s q L) {i : Nat} : ∀ k, i + k ≤ L → (σ i).z (n + m) * (σ (i + k)).d ≤ (σ (i + k)).z (n + m) * (σ i).d
  | 0, _ => Int.le_refl _
  | k + 1, h => le_tr (R.tab P i (by omega)).dp (R.tab P (i + k) (by omega)).dp (R.tab P (i + k + 1) (by omega)).dp (R.mono P k (by omega)) (R.grow P (i := i + k) (by omega)).1
theorem max_at (f : Nat → Nat) : ∀ L, 0 < L → ∃ i < L, ∀ k < L, f k ≤ f i
  | 1, _ => ⟨0, by omega, fun k hk => by rw [show k = 0 by omega]; exact Nat.le_refl _⟩
  | L + 2, _ => by
    obtain ⟨i, hi, h⟩ := max_at f (L + 1) (by omega)
    by_cases e : f i ≤ f (L + 1)
    · exact ⟨L + 1, by omega, fun k hk => by
        by_cases z : k = L + 1
        · rw [z]; exact Nat.le_refl _
        · exact Nat.le_trans (h k (by omega)) e⟩
    · exact ⟨i, by omega, fun k hk => by
        by_cases z : k = L + 1
        · rw [z]; omega
        · exact h k (by omega)⟩
/-- no round of bases -/
theorem Runs.no_round (P : Prob m n A c) (R : Runs m n A c σ s q L) (hL : 0 < L) (hb : ∀ i < m, (σ 0).b i = (σ L).b i) : False := by
  obtain ⟨ed, eg, ez⟩ := (R.tab P 0 (by omega)).same (R.tab P L (by omega)) hb
  -- all steps are degenerate
  have deg : ∀ i < L, (σ i).g (s i) (n + m) = 0 := fun i hi => by
    refine (R.grow P hi).2 ?_
    have h1 := R.mono P (i := 0) i (by omega)
    rw [Nat.zero_add] at h1
    have h2 := R.mono P (i := i + 1) (L - (i + 1)) (by omega)
    rw [show i + 1 + (L - (i + 1)) = L by omega] at h2
    have d0 := (R.tab P 0 (by omega)).dp
    have di := (R.tab P i (by omega)).dp
    have di1 := (R.tab P (i + 1) (by omega)).dp
    have dL := (R.tab P L (by omega)).dp
    -- from i + 1 round to i
    have h3 : (σ (i + 1)).z (n + m) * (σ i).d ≤ (σ i).z (n + m) * (σ (i + 1)).d := by
      rw [ez _ (Nat.le_refl _), ed] at h1
      exact le_tr di1 dL di h2 h1
    exact Int.le_antisymm (R.grow P hi).1 h3
  have zer : ∀ (j k : Nat), k ≤ L → (isZ m (n + m) (σ 0) j ↔ isZ m (n + m) (σ k) j) := fun j k => by
    induction k with
    | zero => intro _; exact Iff.rfl
    | succ k ih => intro h; exact (ih (by omega)).trans ((R.st k (by omega)).zero (R.tab P k (by omega)) (deg k (by omega)) j)
  have bas0L : ∀ j, isB m (σ 0) j ↔ isB m (σ L) j := fun j => ⟨fun ⟨i, hi, e⟩ => ⟨i, hi, by rw [← hb i hi]; exact e⟩, fun ⟨i, hi, e⟩ => ⟨i, hi, by rw [hb i hi]; exact e⟩⟩
  obtain ⟨x, hx, hmax⟩ := max_at q L hL
  have SX := R.st x hx
  have TX := R.tab P x (by omega)
  -- t leaves somewhere
  obtain ⟨y, hy, hty⟩ : ∃ y < L, (σ y).b (s y) = q x := by
    refine Classical.byContradiction fun no => ?_
    have nol : ∀ y < L, q x ≠ (σ y).b (s y) := fun y hy e => no ⟨y, hy, e.symm⟩
    have on : ∀ i k, i + k ≤ L → isB m (σ i) (q x) → isB m (σ (i + k)) (q x) := fun i k => by
      induction k with
      | zero => intro _ h; exact h
      | succ k ih => intro h1 h2; exact (R.st (i + k) (by omega)).oldB (ih (by omega) h2) (nol _ (by omega))
    have a := on (x + 1) (L - (x + 1)) (by omega) SX.newB
    rw [show x + 1 + (L - (x + 1)) = L by omega] at a
    have b := on 0 x (by omega) ((bas0L _).mpr a)
    rw [Nat.zero_add] at b
    exact TX.notB (by have := SX.e.ng; omega) b
  have SY := R.st y hy
  have TY := R.tab P y (by omega)
  have hqt : q y < q x := by
    have h1 := hmax y hy
    have h2 : q y ≠ q x := fun e => TY.notB (j := q y) (by have := SY.e.ng; omega) ⟨s y, SY.l.lt, by rw [hty, e]⟩
    omega
  have two := TX.two P TY SY.e.lt
  have zq := SX.e.fst _ hqt
  have dX := TX.dp
  have dY := TY.dp
  have ny := SY.e.ng
  have neg : (σ x).d * (σ y).z (q y) < 0 := by
    have := Int.mul_pos dX (show 0 < - (σ y).z (q y) by omega)
    rw [Int.mul_neg] at this
    omega
  have nn : 0 ≤ (σ y).d * (σ x).z (q y) := Int.mul_nonneg (Int.le_of_lt dY) zq
  obtain ⟨i, hi, hpos⟩ := sg_pos (f := fun i => (σ y).g i (q y) * (σ x).z ((σ y).b i)) (m := m) (by omega)
  have hir : i ≠ s y := fun e => by
    subst e
    rw [hty] at hpos
    have h1 := SY.l.ps
    have h2 := SX.e.ng
    have := Int.mul_pos h1 (show 0 < - (σ x).z (q x) by omega)
    rw [Int.mul_neg] at this
    omega
  have hzj : (σ x).z ((σ y).b i) ≠ 0 := fun e => by rw [e, Int.mul_zero] at hpos; omega
  have nbX := TX.notB hzj
  -- j enters somewhere
  obtain ⟨k, hk, hjk⟩ : ∃ k < L, q k = (σ y).b i := by
    refine Classical.byContradiction fun no => ?_
    have noe : ∀ k < L, (σ y).b i ≠ q k := fun k hk e => no ⟨k, hk, e.symm⟩
    have on : ∀ a k, a + k ≤ L → isB m (σ (a + k)) ((σ y).b i) → isB m (σ a) ((σ y).b i) := fun a k => by
      induction k with
      | zero => intro _ h; exact h
      | succ k ih => intro h1 h2; exact ih (by omega) ((R.st (a + k) (by omega)).backB h2 (noe _ (by omega)))
    have bY : isB m (σ y) ((σ y).b i) := ⟨i, hi, rfl⟩
    have a := on 0 y (by omega) (by rw [Nat.zero_add]; exact bY)
    have b := on x (L - x) (by omega) (by rw [show x + (L - x) = L by omega]; exact (bas0L _).mp a)
    exact nbX b
  have hjt : (σ y).b i < q x := by
    have h1 := hmax k hk
    have h2 : (σ y).b i ≠ q x := fun e => hir (TY.inj hi SY.l.lt (e.trans hty.symm))
    omega
  have zj := SX.e.fst _ hjt
  have gp : 0 < (σ y).g i (q y) := by
    refine Classical.byContradiction fun no => ?_
    have := Int.mul_nonneg (show 0 ≤ - (σ y).g i (q y) by omega) zj
    rw [Int.neg_mul] at this
    omega
  have z0 : (σ y).g i (n + m) = 0 := by
    have h1 : isZ m (n + m) (σ x) ((σ y).b i) := fun k hk e => absurd ⟨k, hk, e⟩ nbX
    exact ((zer _ y (by omega)).mp ((zer _ x (by omega)).mpr h1)) i hi rfl
  have ms := SY.l.mn i hi gp
  rw [z0, deg y hy, Int.zero_mul, Int.zero_mul, hty] at ms
  omega
end

/-! ### runs are short, entries small -/
def allL : Nat → Nat → List (List Nat)
  | 0, _ => [[]]
  | m + 1, N => (allL m N).flatMap fun l => (List.range N).map fun x => l ++ [x]
theorem allL_mem (b : Nat → Nat) (N : Nat) : ∀ m, (∀ i < m, b i < N) → (List.range m).map b ∈ allL m N
  | 0, _ => List.mem_singleton.mpr rfl
  | m + 1, h => by
    rw [List.range_succ, List.map_append]
    exact List.mem_flatMap.mpr ⟨_, allL_mem b N m fun i hi => h i (by omega), List.mem_map.mpr ⟨b m, List.mem_range.mpr (h m (by omega)), rfl⟩⟩
theorem nodup_len {α : Type} [DecidableEq α] : ∀ {l m : List α}, l.Nodup → (∀ x ∈ l, x ∈ m) → l.length ≤ m.length
  | [], _, _, _ => Nat.zero_le _
  | x :: l, m, hn, h => by
    obtain ⟨h1, h2⟩ := List.nodup_cons.mp hn
    have hx := h x (by simp)
    have ih := nodup_len (l := l) (m := m.erase x) h2 fun y hy => (List.mem_erase_of_ne (fun z => h1 (by rw [← z]; exact hy))).mpr (h y (by simp [hy]))
    have := List.length_erase_of_mem hx
    have hp : 0 < m.length := List.length_pos_of_mem hx
    simp only [List.length_cons]
    omega
section
variable {m n L : Nat} {A : Nat → Col} {c : Nat → Int} {σ : Nat → Ps} {s q : Nat → Nat}
theorem Runs.sub (P : Prob m n A c) (R : Runs m n A c σ s q L) {i j : Nat} (hij : i ≤ j) (hj : j ≤ L) : Runs m n A c (fun k => σ (i + k)) (fun k => s (i + k)) (fun k => q (i + k)) (j - i) :=
  ⟨R.tab P i (by omega), R.fea P i (by omega), fun k hk => R.st (i + k) (by omega)⟩
theorem Runs.len (P : Prob m n A c) (R : Runs m n A c σ s q L) : L + 1 ≤ (allL m (n + m)).length := by
  have nd : ((List.range (L + 1)).map fun i => (List.range m).map (σ i).b).Nodup := by
    rw [List.nodup_iff_pairwise_ne, List.pairwise_map]
    have lt := List.pairwise_lt_range (n := L + 1)
    refine lt.imp_of_mem fun {i j} hi hj hlt e => ?_
    have hi := List.mem_range.mp hi
    have hj := List.mem_range.mp hj
    refine (R.sub P (Nat.le_of_lt hlt) (by omega)).no_round P (by omega) fun k hk => ?_
    have e2 : ((List.range m).map (σ i).b)[k]? = ((List.range m).map (σ j).b)[k]? := by rw [e]
    rw [List.getElem?_map, List.getElem?_map, List.getElem?_range hk] at e2
    have e3 := Option.some.inj e2
    show (σ (i + 0)).b k = (σ (i + (j - i))).b k
    rw [Nat.add_zero, show i + (j - i) = j by omega]
    exact e3
  have := nodup_len nd fun x hx => by
    obtain ⟨i, hi, rfl⟩ := List.mem_map.mp hx
    exact allL_mem _ _ _ (R.tab P i (by have := List.mem_range.mp hi; omega)).bd
  simpa using this
theorem Runs.add (R : Runs m n A c σ s q L) {τ : Ps} {s' q' : Nat} (S : Stp m n (σ L) τ s' q') : Runs m n A c (fun k => if k ≤ L then σ k else τ) (fun k => if k < L then s k else s') (fun k => if k < L then q k else q') (L + 1) where
  t := by rw [if_pos (Nat.zero_le _)]; exact R.t
  f := by rw [if_pos (Nat.zero_le _)]; exact R.f
  st := fun i hi => by
    by_cases h : i < L
    · rw [if_pos (by omega), if_pos (by omega), if_pos h, if_pos h]; exact R.st i h
    · have : i = L := by omega
      subst this
      rw [if_pos (Nat.le_refl _), if_neg (by omega), if_neg (by omega), if_neg (by omega)]; exact S
end
def bdD (X : Nat) : Nat → Nat
  | 0 => 1
  | m + 1 => (m + 1) * (X * bdD X m)
theorem sg_abs {f : Nat → Int} {K : Nat} : ∀ {n : Nat}, (∀ k < n, (f k).natAbs ≤ K) → (sg f n).natAbs ≤ n * K
  | 0, _ => by show (0 : Int).natAbs ≤ _; simp
  | n + 1, h => by
    have a := sg_abs (f := f) (K := K) (n := n) fun k hk => h k (by omega)
    have b := h n (by omega)
    have : (sg f n + f n).natAbs ≤ (sg f n).natAbs + (f n).natAbs := Int.natAbs_add_le _ _
    show (sg f n + f n).natAbs ≤ _
    rw [Nat.add_mul]
    omega
theorem det_abs {X : Nat} : ∀ {m : Nat} {C : Nat → Col}, (∀ c < m, ∀ r < m, (C c r).natAbs ≤ X) → (det m C).natAbs ≤ bdD X m
  | 0, _, _ => Nat.le_refl _
  | m + 1, C, h => by
    refine sg_abs (K := X * bdD X m) fun j hj => ?_
    rw [Int.natAbs_mul, Int.natAbs_mul]
    have s1 : (sgn j).natAbs = 1 := by unfold sgn; split <;> rfl
    rw [s1, Nat.one_mul]
    exact Nat.mul_le_mul (h j hj 0 (by omega)) (det_abs fun c hc r hr => h _ (skip_lt hc) _ (by omega))
section
variable {m n : Nat} {A : Nat → Col} {c : Nat → Int} {σ : Ps} {X Y : Nat}
theorem TabP.abs (T : TabP m n A c σ) (hA : ∀ j ≤ n + m, ∀ r < m, (A j r).natAbs ≤ X) : σ.d.natAbs ≤ bdD X m ∧ ∀ i < m, ∀ j ≤ n + m, (σ.g i j).natAbs ≤ bdD X m := by
  refine ⟨by rw [T.dt]; exact det_abs fun k hk r hr => hA _ (Nat.le_of_lt (T.bd k hk)) r hr, fun i hi j hj => ?_⟩
  rw [← T.detj hi hj]
  refine det_abs fun k hk r hr => ?_
  by_cases e : k = i
  · subst e; rw [cset_same]; exact hA j hj r hr
  · rw [cset_ne _ _ e]; exact hA _ (Nat.le_of_lt (T.bd k hk)) r hr
/-! ### what the last tableau tells -/
/-- the number of the column j, over d -/
def xv (m R : Nat) (σ : Ps) (j : Nat) : Int := sg (fun i => if σ.b i = j then σ.g i R else 0) m
theorem xv_nn (F : Fea m (n + m) σ) (j : Nat) : 0 ≤ xv m (n + m) σ j := by
  unfold xv
  have : ∀ k, k ≤ m → 0 ≤ sg (fun i => if σ.b i = j then σ.g i (n + m) else 0) k := fun k => by
    induction k with
    | zero => intro _; exact Int.le_refl _
    | succ k ih =>
      intro h
      have a := ih (by omega)
      have b : 0 ≤ if σ.b k = j then σ.g k (n + m) else 0 := by split; exact F k (by omega); exact Int.le_refl _
      exact Int.add_nonneg a b
  exact this m (Nat.le_refl _)
/-- a sum over the basis is one over all columns -/
theorem xv_sum (T : TabP m n A c σ) (f : Nat → Int) : sg (fun i => σ.g i (n + m) * f (σ.b i)) m = sg (fun j => xv m (n + m) σ j * f j) (n + m) := by
  have e : ∀ j < n + m, xv m (n + m) σ j * f j = sg (fun i => if σ.b i = j then σ.g i (n + m) * f j else 0) m := fun j _ => by
    unfold xv
    rw [← sg_mulr]
    exact sg_congr fun i _ => by split <;> simp
  rw [sg_congr e, sg_swap]
  refine sg_congr fun i hi => ?_
  rw [sg_one (i := σ.b i) (T.bd i hi) fun j _ h => if_neg (Ne.symm h), if_pos rfl]
theorem TabP.rows (T : TabP m n A c σ) {l : Nat} (hl : l < m) : σ.d * A (n + m) l = sg (fun j => xv m (n + m) σ j * A j l) (n + m) := by
  rw [← xv_sum T (fun j => A j l)]
  exact T.span (Nat.le_refl _) hl
theorem TabP.val (T : TabP m n A c σ) (hc : c (n + m) = 0) : σ.z (n + m) = - sg (fun j => xv m (n + m) σ j * c j) (n + m) := by
  rw [T.g2 _ (Nat.le_refl _), hc, ← xv_sum T c, Int.mul_zero, Int.zero_sub]
  congr 1
  exact sg_congr fun i _ => Int.mul_comm _ _
end
theorem sg_split (f : Nat → Int) (n : Nat) : ∀ m, sg f (n + m) = sg f n + sg (fun k => f (n + k)) m
  | 0 => by show sg f n = sg f n + 0; omega
  | m + 1 => by
    show sg f (n + m) + f (n + m) = sg f n + (sg (fun k => f (n + k)) m + f (n + m))
    rw [sg_split f n m]; omega

/-! ### determinants of which most rows are those of a graph -/
def rset (C : Nat → Col) (r : Nat) (f : Nat → Int) : Nat → Col := fun c r' => if r' = r then f c else C c r'
theorem minr_rset {C : Nat → Col} {r j : Nat} (f : Nat → Int) : minr (rset C (r + 1) f) j = rset (minr C j) r fun c => f (skip j c) := by
  funext c r'
  unfold minr rset
  by_cases h : r' = r <;> simp [h]
theorem minr_rset0 {C : Nat → Col} {j : Nat} (f : Nat → Int) : minr (rset C 0 f) j = minr C j := by
  funext c r'
  unfold minr rset
  simp
theorem det_rlin (x y : Int) : ∀ {m r : Nat} (C : Nat → Col) (f g : Nat → Int), r < m → det m (rset C r fun c => x * f c + y * g c) = x * det m (rset C r f) + y * det m (rset C r g)
  | m + 1, 0, C, f, g, _ => by
    show sg _ (m + 1) = x * sg _ (m + 1) + y * sg _ (m + 1)
    rw [← sg_mul, ← sg_mul, ← sg_add]
    refine sg_congr fun j hj => ?_
    rw [minr_rset0, minr_rset0, minr_rset0]
    have e : ∀ h : Nat → Int, rset C 0 h j 0 = h j := fun h => by simp [rset]
    rw [e, e, e]
    generalize det m (minr C j) = d
    rw [Int.mul_add, Int.add_mul]
    congr 1
    · rw [← Int.mul_assoc, Int.mul_comm (sgn j) x, Int.mul_assoc x, Int.mul_assoc x]
    · rw [← Int.mul_assoc, Int.mul_comm (sgn j) y, Int.mul_assoc y, Int.mul_assoc y]
  | m + 1, r + 1, C, f, g, h => by
    show sg _ (m + 1) = x * sg _ (m + 1) + y * sg _ (m + 1)
    rw [← sg_mul, ← sg_mul, ← sg_add]
    refine sg_congr fun j hj => ?_
    rw [minr_rset, minr_rset, minr_rset, det_rlin x y (minr C j) (fun c => f (skip j c)) (fun c => g (skip j c)) (by omega)]
    have e : ∀ h : Nat → Int, rset C (r + 1) h j 0 = C j 0 := fun h => by simp [rset]
    rw [e, e, e]
    generalize sgn j * C j 0 = a
    generalize det m (rset (minr C j) r fun c => f (skip j c)) = p
    generalize det m (rset (minr C j) r fun c => g (skip j c)) = q
    rw [Int.mul_add, ← Int.mul_assoc a x, Int.mul_comm a x, Int.mul_assoc x a, ← Int.mul_assoc a y, Int.mul_comm a y, Int.mul_assoc y a]
theorem det_rzero {m r : Nat} {C : Nat → Col} (h : r < m) : det m (rset C r fun _ => 0) = 0 := by
  have := det_rlin 0 0 C (fun _ => 0) (fun _ => 0) h
  simpa using this
theorem det_rsum {m r : Nat} {C : Nat → Col} (h : r < m) (f : Nat → Nat → Int) : ∀ n, det m (rset C r fun c => sg (fun l => f l c) n) = sg (fun l => det m (rset C r (f l))) n
  | 0 => det_rzero h
  | n + 1 => by
    have e : (fun c => sg (fun l => f l c) (n + 1)) = fun c => 1 * sg (fun l => f l c) n + 1 * f n c := by
      funext c; rw [Int.one_mul, Int.one_mul]; rfl
    rw [e, det_rlin 1 1 C _ _ h, det_rsum h f n, Int.one_mul, Int.one_mul]; rfl
/-- a column with at most one 1 and one -1 -/
structure Net (k : Nat) (v : Col) : Prop where
  b : ∀ r < k, v r = 0 ∨ v r = 1 ∨ v r = -1
  p : ∀ r < k, ∀ r' < k, v r = 1 → v r' = 1 → r = r'
  n : ∀ r < k, ∀ r' < k, v r = -1 → v r' = -1 → r = r'
theorem Net.pv {k : Nat} {u w : Col} (hu : Net (k + 1) u) (hw : Net (k + 1) w) (h0 : w 0 ≠ 0) : Net k fun r => u (r + 1) - u 0 * w 0 * w (r + 1) := by
  have w0 := hw.b 0 (by omega)
  have u0 := hu.b 0 (by omega)
  -- behind row 0
  have fu : ∀ r < k, (u 0 = 1 → u (r + 1) = 0 ∨ u (r + 1) = -1) ∧ (u 0 = -1 → u (r + 1) = 0 ∨ u (r + 1) = 1) := fun r hr => by
    have a := hu.b (r + 1) (by omega)
    have b := hu.p 0 (by omega) (r + 1) (by omega)
    have c := hu.n 0 (by omega) (r + 1) (by omega)
    constructor
    · intro h
      rcases a with a | a | a
      · exact .inl a
      · have := b h a; omega
      · exact .inr a
    · intro h
      rcases a with a | a | a
      · exact .inl a
      · exact .inr a
      · have := c h a; omega
  have fw : ∀ r < k, (w 0 = 1 → w (r + 1) = 0 ∨ w (r + 1) = -1) ∧ (w 0 = -1 → w (r + 1) = 0 ∨ w (r + 1) = 1) := fun r hr => by
    have a := hw.b (r + 1) (by omega)
    have b := hw.p 0 (by omega) (r + 1) (by omega)
    have c := hw.n 0 (by omega) (r + 1) (by omega)
    constructor
    · intro h
      rcases a with a | a | a
      · exact .inl a
      · have := b h a; omega
      · exact .inr a
    · intro h
      rcases a with a | a | a
      · exact .inl a
      · exact .inr a
      · have := c h a; omega
  rcases u0 with e | e | e
  · have : (fun r => u (r + 1) - u 0 * w 0 * w (r + 1)) = fun r => u (r + 1) := by funext r; rw [e, Int.zero_mul, Int.zero_mul, Int.sub_zero]
    rw [this]
    exact ⟨fun r hr => hu.b _ (by omega), fun r hr r' hr' a b => by have := hu.p (r + 1) (by omega) (r' + 1) (by omega) a b; omega, fun r hr r' hr' a b => by have := hu.n (r + 1) (by omega) (r' + 1) (by omega) a b; omega⟩
  all_goals
    rcases w0 with f | f | f
    · exact absurd f h0
    all_goals
      refine ⟨fun r hr => ?_, fun r hr r' hr' a b => ?_, fun r hr r' hr' a b => ?_⟩
      · first | have a1 := (fu r hr).1 e | have a1 := (fu r hr).2 e
        first | have a2 := (fw r hr).1 f | have a2 := (fw r hr).2 f
        simp only [e, f]
        omega
      · first | have a1 := (fu r hr).1 e | have a1 := (fu r hr).2 e
        first | have a2 := (fw r hr).1 f | have a2 := (fw r hr).2 f
        first | have b1 := (fu r' hr').1 e | have b1 := (fu r' hr').2 e
        first | have b2 := (fw r' hr').1 f | have b2 := (fw r' hr').2 f
        have u1 := hu.p (r + 1) (by omega) (r' + 1) (by omega)
        have u2 := hu.n (r + 1) (by omega) (r' + 1) (by omega)
        have w1 := hw.p (r + 1) (by omega) (r' + 1) (by omega)
        have w2 := hw.n (r + 1) (by omega) (r' + 1) (by omega)
        simp only [e, f] at a b
        omega
      · first | have a1 := (fu r hr).1 e | have a1 := (fu r hr).2 e
        first | have a2 := (fw r hr).1 f | have a2 := (fw r hr).2 f
        first | have b1 := (fu r' hr').1 e | have b1 := (fu r' hr').2 e
        first | have b2 := (fw r' hr').1 f | have b2 := (fw r' hr').2 f
        have u1 := hu.p (r + 1) (by omega) (r' + 1) (by omega)
        have u2 := hu.n (r + 1) (by omega) (r' + 1) (by omega)
        have w1 := hw.p (r + 1) (by omega) (r' + 1) (by omega)
        have w2 := hw.n (r + 1) (by omega) (r' + 1) (by omega)
        simp only [e, f] at a b
        omega
/-- a multiple of another column taken from a column -/
theorem det_addc {m c p : Nat} {C : Nat → Col} (hc : c < m) (hp : p < m) (h : c ≠ p) (x : Int) : det m (cset C c fun r => C c r + x * C p r) = det m C := by
  have e : (fun r => C c r + x * C p r) = fun r => 1 * C c r + x * C p r := by funext r; rw [Int.one_mul]
  rw [e, det_lin 1 x (C c) (C p) C hc, cset_self, det_eqc hc hp h]; omega
/-- multiples of the column p taken from all others before n -/
def elimC (C : Nat → Col) (p : Nat) (x : Nat → Int) (n : Nat) : Nat → Col := fun c => if c < n ∧ c ≠ p then (fun r => C c r + x c * C p r) else C c
theorem det_elim {m p : Nat} {C : Nat → Col} (hp : p < m) (x : Nat → Int) : ∀ n, n ≤ m → det m (elimC C p x n) = det m C
  | 0, _ => by
    have : elimC C p x 0 = C := by funext c; unfold elimC; rw [if_neg (by omega)]
    rw [this]
  | n + 1, h => by
    refine Eq.trans ?_ (det_elim hp x n (by omega))
    by_cases e : n = p
    · have : elimC C p x (n + 1) = elimC C p x n := by
        funext c; unfold elimC
        by_cases h1 : c < n ∧ c ≠ p
        · rw [if_pos h1, if_pos (by omega)]
        · rw [if_neg h1, if_neg (by omega)]
      rw [this]
    · have : elimC C p x (n + 1) = cset (elimC C p x n) n fun r => elimC C p x n n r + x n * elimC C p x n p r := by
        funext c; unfold cset elimC
        by_cases h0 : c = n
        · subst h0
          rw [if_pos (by omega), if_pos rfl, if_neg (by omega), if_neg (by omega)]
        · rw [if_neg h0]
          by_cases h1 : c < n ∧ c ≠ p
          · rw [if_pos h1, if_pos (by omega)]
          · rw [if_neg h1, if_neg (by omega)]
      rw [this, det_addc (by omega) hp e]
theorem unskip_skip (p c : Nat) : unskip p (skip p c) = c := by
  unfold skip; split
  · unfold unskip; rw [if_pos ‹_›]
  · unfold unskip; rw [if_neg (by omega)]; omega
theorem skip_unskip {p j : Nat} (h : j ≠ p) : skip p (unskip p j) = j := by
  unfold unskip; split
  · unfold skip; rw [if_pos ‹_›]
  · unfold skip; rw [if_neg (by omega)]; omega
/-- all columns but j have 0 in the last row -/
structure NetJ (k j : Nat) (C : Nat → Col) : Prop where
  c : ∀ c < k + 1, Net k (C c)
  z : ∀ c < k + 1, c ≠ j → C c k = 0
  j : (C j k).natAbs ≤ 1
theorem NetJ.det : ∀ {k j : Nat} {C : Nat → Col}, j < k + 1 → NetJ k j C → (det (k + 1) C).natAbs ≤ 1
  | 0, j, C, hj, h => by
    have : j = 0 := by omega
    subst this
    show (sg (fun j => sgn j * C j 0 * LW.det 0 (minr C j)) 1).natAbs ≤ 1
    show (0 + sgn 0 * C 0 0 * 1).natAbs ≤ 1
    have := h.j
    rw [show sgn 0 = 1 from rfl]
    omega
  | k + 1, j, C, hj, h => by
    by_cases hp : ∃ p < k + 2, p ≠ j ∧ C p 0 ≠ 0
    · obtain ⟨p, hp, hpj, hp0⟩ := hp
      have pp : C p 0 * C p 0 = 1 := by
        rcases (h.c p hp).b 0 (by omega) with e | e | e
        · exact absurd e hp0
        · rw [e]; rfl
        · rw [e]; rfl
      rw [← det_elim (C := C) hp (fun c => - (C c 0 * C p 0)) (k + 2) (Nat.le_refl _)]
      have z0 : ∀ c < k + 2, c ≠ p → elimC C p (fun c => - (C c 0 * C p 0)) (k + 2) c 0 = 0 := fun c hc hcp => by
        unfold elimC
        rw [if_pos ⟨hc, hcp⟩]
        show C c 0 + - (C c 0 * C p 0) * C p 0 = 0
        rw [Int.neg_mul, Int.mul_assoc, pp]; omega
      show (sg (fun i => sgn i * elimC C p (fun c => - (C c 0 * C p 0)) (k + 2) i 0 * LW.det (k + 1) (minr (elimC C p (fun c => - (C c 0 * C p 0)) (k + 2)) i)) (k + 2)).natAbs ≤ 1
      rw [sg_one (i := p) hp fun c hc hcp => by rw [z0 c hc hcp, Int.mul_zero, Int.zero_mul], Int.natAbs_mul, Int.natAbs_mul]
      have n1 : (sgn p).natAbs = 1 := by unfold sgn; split <;> rfl
      have n2 : (elimC C p (fun c => - (C c 0 * C p 0)) (k + 2) p 0).natAbs = 1 := by
        unfold elimC
        rw [if_neg (by simp)]
        rcases (h.c p hp).b 0 (by omega) with e | e | e
        · exact absurd e hp0
        · rw [e]; rfl
        · rw [e]; rfl
      rw [n1, n2, Nat.mul_one, Nat.one_mul]
      refine NetJ.det (j := unskip p j) (by unfold unskip; split <;> omega) ?_
      have col : ∀ c < k + 1, ∀ r, minr (elimC C p (fun c => - (C c 0 * C p 0)) (k + 2)) p c r = C (skip p c) (r + 1) - C (skip p c) 0 * C p 0 * C p (r + 1) := fun c hc r => by
        unfold minr elimC
        have h1 : skip p c < k + 2 := skip_lt hc
        have h2 : skip p c ≠ p := by unfold skip; split <;> omega
        rw [if_pos ⟨h1, h2⟩]
        show C (skip p c) (r + 1) + - (C (skip p c) 0 * C p 0) * C p (r + 1) = _
        rw [Int.neg_mul]; omega
      refine ⟨fun c hc => ?_, fun c hc hcj => ?_, ?_⟩
      · have e : (minr (elimC C p (fun c => - (C c 0 * C p 0)) (k + 2)) p c) = fun r => C (skip p c) (r + 1) - C (skip p c) 0 * C p 0 * C p (r + 1) := funext fun r => col c hc r
        rw [e]
        exact (h.c _ (skip_lt hc)).pv (h.c p hp) hp0
      · rw [col c hc, h.z p hp hpj, h.z (skip p c) (skip_lt hc) fun e => hcj (by rw [← e, unskip_skip])]
        omega
      · have hu : unskip p j < k + 1 := by unfold unskip; split <;> omega
        rw [col _ hu, h.z p hp hpj]
        have e : skip p (unskip p j) = j := skip_unskip (Ne.symm hpj)
        rw [e, Int.mul_zero, Int.sub_zero]
        exact h.j
    · have z0 : ∀ c < k + 2, c ≠ j → C c 0 = 0 := fun c hc hcj => Classical.byContradiction fun e => hp ⟨c, hc, hcj, e⟩
      show (sg (fun i => sgn i * C i 0 * LW.det (k + 1) (minr C i)) (k + 2)).natAbs ≤ 1
      rw [sg_one (i := j) hj fun c hc hcj => by rw [z0 c hc hcj, Int.mul_zero, Int.zero_mul]]
      have e : LW.det (k + 1) (minr C j) = LW.det (k + 1) (rset (minr C j) k fun _ => 0) := det_congr fun c hc r hr => by
        unfold rset
        by_cases hk : r = k
        · subst hk
          rw [if_pos rfl]
          unfold minr
          exact h.z _ (skip_lt hc) (by unfold skip; split <;> omega)
        · rw [if_neg hk]
      rw [e, det_rzero (by omega), Int.mul_zero]
      decide
/-- the rows of a graph, then one with small numbers -/
theorem det_net {k : Nat} {C : Nat → Col} (h : ∀ c < k + 1, Net k (C c)) (hl : ∀ c < k + 1, (C c k).natAbs ≤ 1) : (det (k + 1) C).natAbs ≤ k + 1 := by
  have e : det (k + 1) C = det (k + 1) (rset C k fun c => sg (fun l => if l = c then C c k else 0) (k + 1)) := det_congr fun c hc r _ => by
    unfold rset
    by_cases hr : r = k
    · subst hr
      rw [if_pos rfl]
      show C c r = sg (fun l => if l = c then C c r else 0) (r + 1)
      rw [sg_one (i := c) hc fun l _ hl => if_neg hl, if_pos rfl]
    · rw [if_neg hr]
  rw [e, det_rsum (Nat.lt_succ_self k) (fun l c => if l = c then C c k else 0)]
  have := sg_abs (f := fun l => det (k + 1) (rset C k fun c => if l = c then C c k else 0)) (K := 1) (n := k + 1) fun l hl' => by
    refine NetJ.det (j := l) hl' ⟨fun c hc => ?_, fun c hc hcl => ?_, ?_⟩
    · have n := h c hc
      have e : ∀ r < k, rset C k (fun c => if l = c then C c k else 0) c r = C c r := fun r hr => by unfold rset; rw [if_neg (by omega)]
      exact ⟨fun r hr => by rw [e r hr]; exact n.b r hr, fun r hr r' hr' => by rw [e r hr, e r' hr']; exact n.p r hr r' hr', fun r hr r' hr' => by rw [e r hr, e r' hr']; exact n.n r hr r' hr'⟩
    · show rset C k (fun c => if l = c then C c k else 0) c k = 0
      unfold rset
      rw [if_pos rfl]
      exact if_neg (Ne.symm hcl)
    · show (rset C k (fun c => if l = c then C c k else 0) l k).natAbs ≤ 1
      unfold rset
      rw [if_pos rfl]
      show (if l = l then C l k else 0).natAbs ≤ 1
      rw [if_pos rfl]
      exact hl l hl'
  rw [Nat.mul_one] at this
  exact this
/-- d rows with numbers up to X ahead of them -/
structure NetD (d N X : Nat) (v : Col) : Prop where
  x : ∀ r < d, (v r).natAbs ≤ X
  n : Net N fun r => v (d + r)
  l : (v (d + N)).natAbs ≤ 1
theorem det_nb {N X M : Nat} : ∀ {d : Nat} {C : Nat → Col}, d + N + 1 ≤ M → (∀ c < d + N + 1, NetD d N X (C c)) → (det (d + N + 1) C).natAbs ≤ (M * X) ^ d * M
  | 0, C, hM, h => by
    have := det_net (k := N) (C := C) (fun c hc => by have := (h c (by omega)).n; simpa using this) (fun c hc => by have := (h c (by omega)).l; simpa using this)
    simp only [Nat.zero_add, Nat.pow_zero, Nat.one_mul]
    omega
  | d + 1, C, hM, h => by
    rw [show d + 1 + N + 1 = (d + N + 1) + 1 by omega]
    have := sg_abs (f := fun j => sgn j * C j 0 * det (d + N + 1) (minr C j)) (K := X * ((M * X) ^ d * M)) (n := d + N + 1 + 1) fun j hj => by
      rw [Int.natAbs_mul, Int.natAbs_mul]
      have s1 : (sgn j).natAbs = 1 := by unfold sgn; split <;> rfl
      rw [s1, Nat.one_mul]
      refine Nat.mul_le_mul ((h j (by omega)).x 0 (by omega)) (det_nb (by omega) fun c hc => ?_)
      have hs := h (skip j c) (by have := skip_lt (j := j) hc; omega)
      refine ⟨fun r hr => hs.x (r + 1) (by omega), ?_, ?_⟩
      · have n := hs.n
        have e : (fun r => minr C j c (d + r)) = fun r => C (skip j c) (d + 1 + r) := by
          funext r; unfold minr; rw [show d + r + 1 = d + 1 + r by omega]
        rw [e]; exact n
      · have n := hs.l
        show (C (skip j c) (d + N + 1)).natAbs ≤ 1
        rw [show d + N + 1 = d + 1 + N by omega]; exact n
    refine Nat.le_trans this ?_
    rw [Nat.pow_succ]
    have e1 : (M * X) ^ d * (M * X) * M = M * (X * ((M * X) ^ d * M)) := by
      rw [Nat.mul_comm ((M * X) ^ d) (M * X), Nat.mul_assoc, Nat.mul_assoc]
    rw [e1]
    exact Nat.mul_le_mul_right _ (by omega)
section
variable {m n : Nat} {A : Nat → Col} {c : Nat → Int} {σ : Ps} {d N X M Y : Nat}
theorem TabP.nb (T : TabP m n A c σ) (hm : m = d + N + 1) (hM : m ≤ M) (hA : ∀ j ≤ n + m, NetD d N X (A j)) : σ.d.natAbs ≤ (M * X) ^ d * M ∧ ∀ i < m, ∀ j ≤ n + m, (σ.g i j).natAbs ≤ (M * X) ^ d * M := by
  subst hm
  refine ⟨by rw [T.dt]; exact det_nb hM fun k hk => hA _ (Nat.le_of_lt (T.bd k hk)), fun i hi j hj => ?_⟩
  rw [← T.detj hi hj]
  refine det_nb hM fun k hk => ?_
  by_cases e : k = i
  · subst e; rw [cset_same]; exact hA j hj
  · rw [cset_ne _ _ e]; exact hA _ (Nat.le_of_lt (T.bd k hk))
end

/-- the column that enters -/
def entC (z : Nat → Int) (N : Nat) : Option Nat := (List.range N).find? fun j => decide (z j < 0)
theorem entC_some {z : Nat → Int} {N q : Nat} (h : entC z N = some q) : Ent N z q := by
  unfold entC at h
  rw [List.find?_range_eq_some] at h
  simp only [decide_eq_true_eq, Bool.not_eq_eq_eq_not, Bool.not_true, decide_eq_false_iff_not, List.mem_range] at h
  exact ⟨h.2.1, h.1, fun j hj => by have := h.2.2 j hj; omega⟩
/-! the row that leaves -/
def btr (σ : Ps) (q R i s : Nat) : Bool := decide (σ.g i R * σ.g s q < σ.g s R * σ.g i q) || (decide (σ.g i R * σ.g s q = σ.g s R * σ.g i q) && decide (σ.b i < σ.b s))
def bstep (σ : Ps) (q R : Nat) (o : Option Nat) (i : Nat) : Option Nat := if 0 < σ.g i q then (match o with
  | none => some i
  | some s => if btr σ q R i s then some i else some s) else o
def bestS (σ : Ps) (q R m : Nat) : Option Nat := (List.range m).foldl (bstep σ q R) none
theorem bestS_succ (σ : Ps) (q R t : Nat) : bestS σ q R (t + 1) = bstep σ q R (bestS σ q R t) t := by
  unfold bestS
  rw [List.range_succ, List.foldl_append]; rfl
/-- s stands before i -/
def Bfr (σ : Ps) (q R s i : Nat) : Prop := σ.g s R * σ.g i q < σ.g i R * σ.g s q ∨ (σ.g s R * σ.g i q = σ.g i R * σ.g s q ∧ σ.b s ≤ σ.b i)
theorem Bfr.trans {σ : Ps} {q R a s i : Nat} (pa : 0 < σ.g a q) (ps : 0 < σ.g s q) (pi : 0 < σ.g i q) (h : Bfr σ q R a s) (k : Bfr σ q R s i) : Bfr σ q R a i := by
  unfold Bfr at *
  generalize σ.g a R = ar at *; generalize σ.g s R = sr at *; generalize σ.g i R = ir at *
  generalize σ.g a q = aq at *; generalize σ.g s q = sq at *; generalize σ.g i q = iq at *
  have e1 : ∀ {x y : Int}, x * sq < y * sq → x < y := fun h => Int.lt_of_mul_lt_mul_right h (Int.le_of_lt ps)
  have e2 : ∀ {x y : Int}, x * sq = y * sq → x = y := fun h => Int.eq_of_mul_eq_mul_right (Int.ne_of_gt ps) h
  have m1 : ar * iq * sq = (ar * sq) * iq := by rw [Int.mul_assoc, Int.mul_comm iq, ← Int.mul_assoc]
  have m2 : ir * aq * sq = (ir * sq) * aq := by rw [Int.mul_assoc, Int.mul_comm aq, ← Int.mul_assoc]
  have m3 : (sr * aq) * iq = (sr * iq) * aq := by rw [Int.mul_assoc, Int.mul_comm aq, ← Int.mul_assoc]
  rcases h with h | ⟨h, hb⟩ <;> rcases k with k | ⟨k, kb⟩
  · refine .inl (e1 ?_)
    rw [m1, m2]
    have a1 := Int.mul_lt_mul_of_pos_right h pi
    have a2 := Int.mul_lt_mul_of_pos_right k pa
    rw [m3] at a1
    exact Int.lt_trans a1 a2
  · refine .inl (e1 ?_)
    rw [m1, m2, ← k, ← m3]
    exact Int.mul_lt_mul_of_pos_right h pi
  · refine .inl (e1 ?_)
    rw [m1, m2, h, m3]
    exact Int.mul_lt_mul_of_pos_right k pa
  · refine .inr ⟨e2 ?_, Nat.le_trans hb kb⟩
    rw [m1, m2, h, m3, k]
theorem best_inv (σ : Ps) (q R : Nat) : ∀ t, match bestS σ q R t with
    | none => ∀ i < t, σ.g i q ≤ 0
    | some s => s < t ∧ 0 < σ.g s q ∧ ∀ i < t, 0 < σ.g i q → Bfr σ q R s i
  | 0 => fun i hi => absurd hi (Nat.not_lt_zero i)
  | t + 1 => by
    have ih := best_inv σ q R t
    rw [bestS_succ]
    unfold bstep
    by_cases hp : 0 < σ.g t q
    · rw [if_pos hp]
      cases e : bestS σ q R t with
      | none =>
        rw [e] at ih
        refine ⟨Nat.lt_succ_self t, hp, fun i hi pi => ?_⟩
        rcases Nat.lt_succ_iff_lt_or_eq.mp hi with h | h
        · have := ih i h; omega
        · subst h; exact .inr ⟨rfl, Nat.le_refl _⟩
      | some s =>
        rw [e] at ih
        obtain ⟨h1, h2, h3⟩ := ih
        dsimp only
        by_cases hb : btr σ q R t s = true
        · rw [if_pos hb]
          have bf : Bfr σ q R t s := by
            unfold btr at hb
            simp only [Bool.or_eq_true, Bool.and_eq_true, decide_eq_true_eq] at hb
            rcases hb with hb | ⟨hb, hc⟩
            · exact .inl hb
            · exact .inr ⟨hb, Nat.le_of_lt hc⟩
          refine ⟨Nat.lt_succ_self t, hp, fun i hi pi => ?_⟩
          rcases Nat.lt_succ_iff_lt_or_eq.mp hi with h | h
          · exact bf.trans hp h2 pi (h3 i h pi)
          · subst h; exact .inr ⟨rfl, Nat.le_refl _⟩
        · rw [if_neg hb]
          refine ⟨Nat.lt_succ_of_lt h1, h2, fun i hi pi => ?_⟩
          rcases Nat.lt_succ_iff_lt_or_eq.mp hi with h | h
          · exact h3 i h pi
          · subst h
            unfold btr at hb
            simp only [Bool.or_eq_true, Bool.and_eq_true, decide_eq_true_eq, not_or, not_and] at hb
            rcases Int.lt_trichotomy (σ.g s R * σ.g i q) (σ.g i R * σ.g s q) with z | z | z
            · exact .inl z
            · exact .inr ⟨z, by have := hb.2 z.symm; omega⟩
            · exact absurd z hb.1
    · rw [if_neg hp]
      cases e : bestS σ q R t with
      | none =>
        rw [e] at ih
        intro i hi
        rcases Nat.lt_succ_iff_lt_or_eq.mp hi with h | h
        · exact ih i h
        · subst h; omega
      | some s =>
        rw [e] at ih
        obtain ⟨h1, h2, h3⟩ := ih
        refine ⟨Nat.lt_succ_of_lt h1, h2, fun i hi pi => ?_⟩
        rcases Nat.lt_succ_iff_lt_or_eq.mp hi with h | h
        · exact h3 i h pi
        · subst h; exact absurd pi hp
theorem bestS_lvs {σ : Ps} {q R m s : Nat} (h : bestS σ q R m = some s) : Lvs m R σ s q := by
  have i := best_inv σ q R m
  rw [h] at i
  exact ⟨i.1, i.2.1, i.2.2⟩
/-! the first tableau -/
def sig0 (n : Nat) (A : Nat → Col) (c : Nat → Int) : Ps := ⟨fun i => n + i, fun i j => A j i, c, 1⟩
theorem sig0_tab {m n : Nat} {A : Nat → Col} {c : Nat → Int} (P : Prob m n A c) : TabP m n A c (sig0 n A c) where
  bd := fun i hi => by show n + i < n + m; omega
  dp := by show (0 : Int) < 1; decide
  dt := by
    show (1 : Int) = det m fun i => A (n + i)
    rw [det_congr (D := unitC) fun c hc r hr => P.u c hc r hr, det_unit]
  r2 := fun l hl l' hl' => by
    show sg (fun k => A (n + k) l * A (n + l') k) m = if l = l' then 1 else 0
    rw [sg_one (i := l) hl fun k hk hn => by rw [P.u k hk l hl, unitC, if_neg hn, Int.zero_mul], P.u l hl l hl, P.u l' hl' l hl]
    unfold unitC
    rw [if_pos rfl, Int.one_mul]
    by_cases e : l = l'
    · rw [if_pos e, if_pos e.symm]
    · rw [if_neg e, if_neg fun z => e z.symm]
  g1 := fun i hi j hj => by
    show A j i = sg (fun k => A (n + k) i * A j k) m
    rw [sg_one (i := i) hi fun k hk hn => by rw [P.u k hk i hi, unitC, if_neg hn, Int.zero_mul], P.u i hi i hi, unitC, if_pos rfl, Int.one_mul]
  g2 := fun j hj => by
    show c j = 1 * c j - sg (fun i => c (n + i) * A j i) m
    rw [sg_zero fun k hk => by rw [P.c0 k hk, Int.zero_mul]]
    omega
/-- a state that L steps have reached -/
def Rch (m n : Nat) (A : Nat → Col) (c : Nat → Int) (L : Nat) (τ : Ps) : Prop := ∃ (σ : Nat → Ps) (s q : Nat → Nat), Runs m n A c σ s q L ∧ σ L = τ
section
variable {m n L : Nat} {A : Nat → Col} {c : Nat → Int} {τ υ : Ps} {s q : Nat}
theorem Rch.start (P : Prob m n A c) (hf : ∀ i < m, 0 ≤ A (n + m) i) : Rch m n A c 0 (sig0 n A c) :=
  ⟨fun _ => sig0 n A c, fun _ => 0, fun _ => 0, ⟨sig0_tab P, fun i hi => hf i hi, fun i hi => absurd hi (Nat.not_lt_zero i)⟩, rfl⟩
theorem Rch.step (R : Rch m n A c L τ) (S : Stp m n τ υ s q) : Rch m n A c (L + 1) υ := by
  obtain ⟨σ, s0, q0, R, rfl⟩ := R
  exact ⟨_, _, _, R.add S, if_neg (Nat.not_succ_le_self L)⟩
theorem Rch.len (P : Prob m n A c) (R : Rch m n A c L τ) : L + 1 ≤ (allL m (n + m)).length := by
  obtain ⟨σ, s0, q0, R, _⟩ := R
  exact R.len P
theorem Rch.tab (P : Prob m n A c) (R : Rch m n A c L τ) : TabP m n A c τ := by
  obtain ⟨σ, s0, q0, R, rfl⟩ := R
  exact R.tab P L (Nat.le_refl _)
theorem Rch.fea (P : Prob m n A c) (R : Rch m n A c L τ) : Fea m (n + m) τ := by
  obtain ⟨σ, s0, q0, R, rfl⟩ := R
  exact R.fea P L (Nat.le_refl _)
end

/-! ### the whole run -/
/-- f turns at most -/
def spx (n m : Nat) : Nat → Ps → Ps × Bool
  | 0, σ => (σ, true)
  | f + 1, σ => match entC σ.z (n + m) with
    | none => (σ, true)
    | some q => match bestS σ q (n + m) m with
      | none => (σ, false)
      | some s => spx n m f (σ.pv s q)
structure SpxOk (m n : Nat) (A : Nat → Col) (c : Nat → Int) (u : Ps × Bool) : Prop where
  rc : ∃ L, Rch m n A c L u.1
  t : u.2 = true → entC u.1.z (n + m) = none
  f : u.2 = false → ∃ q, entC u.1.z (n + m) = some q ∧ bestS u.1 q (n + m) m = none
theorem Rch.next {m n L : Nat} {A : Nat → Col} {c : Nat → Int} {τ : Ps} {q s : Nat} (R : Rch m n A c L τ) (he : entC τ.z (n + m) = some q) (hb : bestS τ q (n + m) m = some s) : Rch m n A c (L + 1) (τ.pv s q) :=
  R.step ⟨entC_some he, bestS_lvs hb, rfl⟩
theorem spx_ok {m n : Nat} {A : Nat → Col} {c : Nat → Int} (P : Prob m n A c) : ∀ {f L : Nat} {τ : Ps}, Rch m n A c L τ → (allL m (n + m)).length ≤ L + f → SpxOk m n A c (spx n m f τ)
  | 0, L, τ, R, h => by have := R.len P; omega
  | f + 1, L, τ, R, h => by
    unfold spx
    cases he : entC τ.z (n + m) with
    | none => exact ⟨⟨L, R⟩, fun _ => he, fun z => nomatch z⟩
    | some q =>
      dsimp only
      cases hb : bestS τ q (n + m) m with
      | none => exact ⟨⟨L, R⟩, (fun z => nomatch z), fun _ => ⟨q, he, hb⟩⟩
      | some s => exact spx_ok P (R.next he hb) (by omega)
/-! ### a program told by lists -/
def Acol (n m : Nat) (R : List (List Int)) (b : List Int) : Nat → Col := fun j i => if j < n then (R.getD i []).getD j 0 else if j < n + m then (if j - n = i then 1 else 0) else b.getD i 0
def cst (n : Nat) (g : List Int) : Nat → Int := fun j => if j < n then - g.getD j 0 else 0
theorem Acol_prob (n m : Nat) (R : List (List Int)) (b g : List Int) : Prob m n (Acol n m R b) (cst n g) :=
  ⟨fun l hl r _ => by unfold Acol unitC; rw [if_neg (by omega), if_pos (by omega), Nat.add_sub_cancel_left], fun l hl => by unfold cst; rw [if_neg (by omega)]⟩
theorem Acol_lt {n m : Nat} {R : List (List Int)} {b : List Int} {j i : Nat} (h : j < n) : Acol n m R b j i = (R.getD i []).getD j 0 := if_pos h
theorem Acol_rhs {n m : Nat} {R : List (List Int)} {b : List Int} {i : Nat} : Acol n m R b (n + m) i = b.getD i 0 := by unfold Acol; rw [if_neg (by omega), if_neg (by omega)]
theorem Acol_un {n m : Nat} {R : List (List Int)} {b : List Int} {k i : Nat} (h : k < m) : Acol n m R b (n + k) i = if k = i then 1 else 0 := by unfold Acol; rw [if_neg (by omega), if_pos (by omega), Nat.add_sub_cancel_left]
def spxG (n m : Nat) (R : List (List Int)) (b g : List Int) : Ps × Bool := spx n m (allL m (n + m)).length (sig0 n (Acol n m R b) (cst n g))
theorem spxG_ok (n m : Nat) (R : List (List Int)) (b g : List Int) (hb : ∀ x ∈ b, 0 ≤ x) : SpxOk m n (Acol n m R b) (cst n g) (spxG n m R b g) :=
  spx_ok (Acol_prob n m R b g) (Rch.start (Acol_prob n m R b g) fun i _ => by
    rw [Acol_rhs, List.getD_eq_getElem?_getD]
    cases e : b[i]? with
    | none => exact Int.le_refl _
    | some x => exact hb x (List.mem_of_getElem? e)) (by omega)
/-! what the last tableau says -/
section
variable {n m : Nat} {R : List (List Int)} {b g : List Int} {σ : Ps}
theorem opt_row (T : TabP m n (Acol n m R b) (cst n g) σ) {i : Nat} (hi : i < m) : sg (fun j => xv m (n + m) σ j * (R.getD i []).getD j 0) n + xv m (n + m) σ (n + i) = σ.d * b.getD i 0 := by
  have e := T.rows hi
  rw [Acol_rhs, sg_split] at e
  rw [e]
  congr 1
  · exact sg_congr fun j hj => by rw [Acol_lt hj]
  · rw [sg_one (i := i) hi fun k hk h => by rw [Acol_un hk, if_neg h, Int.mul_zero], Acol_un hi, if_pos rfl, Int.mul_one]
theorem opt_val (T : TabP m n (Acol n m R b) (cst n g) σ) : σ.z (n + m) = sg (fun j => xv m (n + m) σ j * g.getD j 0) n := by
  rw [T.val (by unfold cst; rw [if_neg (by omega)]), sg_split, sg_zero (f := fun k => xv m (n + m) σ (n + k) * cst n g (n + k)) fun k hk => by unfold cst; rw [if_neg (by omega), Int.mul_zero]]
  have e : ∀ (f : Nat → Int) k, sg (fun j => - f j) k = - sg f k := fun f k => by
    induction k with
    | zero => rfl
    | succ k ih => show sg (fun i => - f i) k + (- f k) = - (sg f k + f k); rw [ih]; omega
  rw [sg_congr (g := fun j => - (xv m (n + m) σ j * g.getD j 0)) fun j hj => by unfold cst; rw [if_pos hj, Int.mul_neg], e]; omega
end

/-! ### what can be settled of a piece -/
def goalW (ws : List Int) : List Int := ws.map fun w => if w = 0 then 1 else 0
def numsL (n m : Nat) (σ : Ps) : List Int := (List.range n).map (xv m (n + m) σ)
theorem getD_map {α β : Type} {l : List α} {f : α → β} {i : Nat} {d : α} {e : β} (h : i < l.length) : (l.map f).getD i e = f (l.getD i d) := by
  rw [List.getD_eq_getElem?_getD, List.getD_eq_getElem?_getD, List.getElem?_map, List.getElem?_eq_getElem h]; rfl
theorem numsL_getD {n m : Nat} {σ : Ps} {j : Nat} (h : j < n) : (numsL n m σ).getD j 0 = xv m (n + m) σ j := by
  unfold numsL
  rw [List.getD_eq_getElem?_getD, List.getElem?_map, List.getElem?_range h]; rfl
/-- the weights, turn by turn -/
def stlW (n m : Nat) (R : List (List Int)) (b : List Int) : Nat → List Int → List Int
  | 0, ws => ws
  | t + 1, ws => if 0 < (spxG n m R b (goalW ws)).1.z (n + m) then stlW n m R b t (List.zipWith (· + ·) ws (numsL n m (spxG n m R b (goalW ws)).1)) else ws
/-- rows whose last one is 1 everywhere, with the limit 1, the other limits 0 -/
structure Bal (n m : Nat) (R : List (List Int)) (b : List Int) : Prop where
  mp : 0 < m
  b0 : ∀ i, i + 1 < m → b.getD i 0 = 0
  b1 : b.getD (m - 1) 0 = 1
  nn : ∀ x ∈ b, 0 ≤ x
  r1 : ∀ j < n, (R.getD (m - 1) []).getD j 0 = 1
def zerW (ws : List Int) : Nat := ws.countP fun w => decide (w = 0)
structure GoodW (n m B : Nat) (R : List (List Int)) (ws : List Int) : Prop where
  l : ws.length = n
  nn : ∀ j < n, 0 ≤ ws.getD j 0
  r : ∀ i, i + 1 < m → sg (fun j => ws.getD j 0 * (R.getD i []).getD j 0) n ≤ 0
  s : sg (fun j => ws.getD j 0) n ≤ ((n - zerW ws) * B : Nat)
section
variable {n m B : Nat} {R : List (List Int)} {b : List Int}
theorem goalW_getD {ws : List Int} {j : Nat} (h : j < ws.length) : (goalW ws).getD j 0 = if ws.getD j 0 = 0 then 1 else 0 := getD_map (d := 0) h
theorem getD_zip {f : Int → Int → Int} {a c : List Int} {j : Nat} (ha : j < a.length) (hc : j < c.length) : (List.zipWith f a c).getD j 0 = f (a.getD j 0) (c.getD j 0) := by
  rw [List.getD_eq_getElem?_getD, List.getD_eq_getElem?_getD, List.getD_eq_getElem?_getD, List.getElem?_zipWith, List.getElem?_eq_getElem ha, List.getElem?_eq_getElem hc]; rfl
theorem zer_lt : ∀ {a c : List Int}, a.length = c.length → (∀ j < a.length, 0 ≤ a.getD j 0 ∧ 0 ≤ c.getD j 0) → (∃ j < a.length, a.getD j 0 = 0 ∧ 0 < c.getD j 0) → zerW (List.zipWith (· + ·) a c) < zerW a
  | [], [], _, _, ⟨j, hj, _⟩ => absurd hj (Nat.not_lt_zero j)
  | x :: a, y :: c, hl, hn, ⟨j, hj, h0, h1⟩ => by
    have hl' : a.length = c.length := by simpa using hl
    have hn' : ∀ j < a.length, 0 ≤ a.getD j 0 ∧ 0 ≤ c.getD j 0 := fun j hj => by have := hn (j + 1) (by simpa using hj); simpa using this
    have hx := hn 0 (by simp)
    simp only [List.getD_cons_zero] at hx
    have le : ∀ {a c : List Int}, a.length = c.length → (∀ j < a.length, 0 ≤ a.getD j 0 ∧ 0 ≤ c.getD j 0) → zerW (List.zipWith (· + ·) a c) ≤ zerW a := fun {a} => by
      induction a with
      | nil => intro c _ _; simp [zerW]
      | cons x a ih =>
        intro c hl hn
        cases c with
        | nil => simp at hl
        | cons y c =>
          have hx := hn 0 (by simp)
          simp only [List.getD_cons_zero] at hx
          have i := ih (c := c) (by simpa using hl) fun j hj => by have := hn (j + 1) (by simpa using hj); simpa using this
          unfold zerW at i ⊢
          rw [List.zipWith_cons_cons, List.countP_cons, List.countP_cons]
          have : (if decide (x + y = 0) = true then 1 else 0) ≤ if decide (x = 0) = true then 1 else 0 := by
            by_cases e : x = 0
            · rw [if_pos (decide_eq_true e)]; split <;> omega
            · rw [if_neg (by simp; omega)]; omega
          omega
    show zerW (List.zipWith (· + ·) (x :: a) (y :: c)) < zerW (x :: a)
    unfold zerW
    rw [List.zipWith_cons_cons, List.countP_cons, List.countP_cons]
    cases j with
    | zero =>
      simp only [List.getD_cons_zero] at h0 h1
      have := le hl' hn'
      unfold zerW at this
      rw [if_pos (decide_eq_true h0), if_neg (by simp; omega)]
      omega
    | succ j =>
      have := zer_lt hl' hn' ⟨j, by simpa using hj, by simpa using h0, by simpa using h1⟩
      unfold zerW at this
      have : (if decide (x + y = 0) = true then 1 else 0) ≤ if decide (x = 0) = true then 1 else 0 := by
        by_cases e : x = 0
        · rw [if_pos (decide_eq_true e)]; split <;> omega
        · rw [if_neg (by simp; omega)]; omega
      omega
theorem zer_le (ws : List Int) : zerW ws ≤ ws.length := List.countP_le_length
theorem GoodW.step {ws : List Int} (H : Bal n m R b) (G : GoodW n m B R ws) (hB : (spxG n m R b (goalW ws)).1.d ≤ B) (hv : 0 < (spxG n m R b (goalW ws)).1.z (n + m)) :
    GoodW n m B R (List.zipWith (· + ·) ws (numsL n m (spxG n m R b (goalW ws)).1)) ∧ zerW (List.zipWith (· + ·) ws (numsL n m (spxG n m R b (goalW ws)).1)) < zerW ws := by
  have O := spxG_ok n m R b (goalW ws) H.nn
  have P := Acol_prob n m R b (goalW ws)
  obtain ⟨L, hL⟩ := O.rc
  have T := hL.tab P
  have F := hL.fea P
  generalize (spxG n m R b (goalW ws)).1 = σ at *
  have nl : (numsL n m σ).length = n := by simp [numsL]
  have gl := G.l
  have hm := H.mp
  have zl : zerW (List.zipWith (· + ·) ws (numsL n m σ)) < zerW ws := by
    refine zer_lt (by rw [gl, nl]) (fun j hj => ⟨G.nn j (by omega), ?_⟩) ?_
    · rw [numsL_getD (by omega)]; exact xv_nn F j
    · rw [opt_val T] at hv
      obtain ⟨j, hj, hp⟩ := sg_pos hv
      rw [goalW_getD (by omega)] at hp
      refine ⟨j, by omega, ?_, ?_⟩
      · refine Classical.byContradiction fun z => ?_
        rw [if_neg z, Int.mul_zero] at hp
        omega
      · rw [numsL_getD hj]
        have := xv_nn F j
        rcases Int.lt_or_eq_of_le this with h | h
        · exact h
        · rw [← h, Int.zero_mul] at hp; omega
  have sum : ∀ f : Nat → Int, sg (fun j => (List.zipWith (· + ·) ws (numsL n m σ)).getD j 0 * f j) n = sg (fun j => ws.getD j 0 * f j) n + sg (fun j => xv m (n + m) σ j * f j) n := fun f => by
    rw [← sg_add]
    refine sg_congr fun j hj => ?_
    rw [getD_zip (by omega) (by omega), numsL_getD hj, Int.add_mul]
  refine ⟨⟨by simp [nl, gl], fun j hj => ?_, fun i hi => ?_, ?_⟩, zl⟩
  · rw [getD_zip (by omega) (by omega), numsL_getD hj]
    exact Int.add_nonneg (G.nn j hj) (xv_nn F j)
  · rw [sum fun j => (R.getD i []).getD j 0]
    have a := G.r i hi
    have c := opt_row T (i := i) (by omega)
    rw [H.b0 i hi, Int.mul_zero] at c
    have := xv_nn F (n + i)
    omega
  · have e := sum fun _ => 1
    rw [sg_congr (g := fun j => (List.zipWith (· + ·) ws (numsL n m σ)).getD j 0) fun j _ => Int.mul_one _, sg_congr (f := fun j => ws.getD j 0 * 1) (g := fun j => ws.getD j 0) fun j _ => Int.mul_one _] at e
    rw [e]
    have c := opt_row T (i := m - 1) (by omega)
    rw [H.b1, Int.mul_one, sg_congr (g := fun j => xv m (n + m) σ j * 1) fun j hj => by rw [H.r1 j hj]] at c
    have := xv_nn F (n + (m - 1))
    have s := G.s
    have z1 := zer_le ws
    rw [gl] at z1
    have : ((n - zerW ws + 1) * B : Nat) ≤ (n - zerW (List.zipWith (· + ·) ws (numsL n m σ))) * B := Nat.mul_le_mul_right _ (by omega)
    rw [Nat.add_mul, Nat.one_mul] at this
    have t2 : (((n - zerW ws) * B + B : Nat) : Int) ≤ (((n - zerW (List.zipWith (· + ·) ws (numsL n m σ))) * B : Nat) : Int) := Int.ofNat_le.mpr this
    rw [Int.natCast_add] at t2
    omega
end

/-! ### the program of a piece of reads -/
def rowsP {α β : Type} [DecidableEq β] (d : Nat) (src tg : α → β) (vc : α → List Int) (L : List α) (ns : List β) : List (List Int) :=
  (List.range d).map (fun a => L.map fun x => (vc x).getD a 0) ++ ns.map fun w => L.map fun x => (if src x = w then 1 else 0) - (if tg x = w then 1 else 0)
def rowsQ {α β : Type} [DecidableEq β] (d : Nat) (src tg : α → β) (vc : α → List Int) (L : List α) (ns : List β) : List (List Int) := rowsP d src tg vc L ns ++ [L.map fun _ => 1]
def limsQ (N : Nat) : List Int := List.replicate N 0 ++ [1]
section
variable {α β : Type} [DecidableEq β] {d : Nat} {src tg : α → β} {vc : α → List Int} {L : List α} {ns : List β}
/-! the same by lists -/
def stW (d : Nat) (src tg : α → β) (vc : α → List Int) (L : List α) (ns : List β) : List Int := stlW L.length (d + ns.length + 1) (rowsQ d src tg vc L ns) (limsQ (d + ns.length)) L.length (List.replicate L.length 0)
end

/-! ### the source of draws -/
def rgO (s : Int × Int × Int) : EO := .lst [.int s.1, .int s.2.1, .int s.2.2]
structure RgOk (b : Int) (s : Int × Int × Int) : Prop where
  x0 : 0 ≤ s.1
  y0 : 0 ≤ s.2.1
  y1 : s.2.1 < 2 ^ 63
  z0 : 0 ≤ s.2.2
  z1 : s.2.2 ≤ b
theorem RgOk.mono {b c : Int} {s : Int × Int × Int} (h : RgOk b s) (l : b ≤ c) : RgOk c s := ⟨h.x0, h.y0, h.y1, h.z0, by have := h.z1; omega⟩
theorem log_small {n : Int} (h : 0 < n) (h2 : n < 2 ^ 200) : 0 < n ∧ n.natAbs.log2 < 9000 := by
  refine ⟨h, ?_⟩
  have h3 : n.natAbs < 2 ^ 200 := by omega
  have h4 := (Nat.log2_lt (n := n.natAbs) (k := 200) (by omega)).mpr h3
  omega
theorem bits_of {i : Int} {m : Nat} (h : i.natAbs < 2 ^ m) : Builtin.Int.intBits i ≤ m := PySem.intBits_le_iff.mpr h
theorem draw_ok {xc : XC} {a : Addr} {s : Int × Int × Int} {n b : Int} {eh : Eh} {q : KE} (h : eh a = some (rgO s)) (hs : RgOk b s) (hb : b ≤ 1000000000) (hn : 0 < n) (hn2 : n < 2 ^ 200)
    (k : ∀ v s', 0 ≤ v → v < n → RgOk (b + 1) s' → q (.int v) (eupd eh a (some (rgO s')))) : fn__law_draw xc [.ref a, .int n] eh q := by
  obtain ⟨x, y, z⟩ := s
  have e1 : seqE eh (.ref a) = some [.int x, .int y, .int z] := by simp only [seqE, h, rgO]
  have hx0 : 0 ≤ x := hs.x0
  have hy0 : 0 ≤ y := hs.y0
  have hy1 : y < 2 ^ 63 := hs.y1
  have hz0 : 0 ≤ z := hs.z0
  have hz1 : z ≤ b := hs.z1
  unfold fn__law_draw ms__law_draw
  repeat walk_at "vm"
  refine ix_i e1 (by rfl) ?_
  repeat walk_at "vm"
  refine cD_i (fun hx => ?_) (fun hx => ?_)
  · repeat walk_at "vm"
    refine ix_i e1 (by rfl) ?_
    repeat walk_at "vm"
    refine mod_i hn ?_
    dsimp only
    repeat walk_at "vm"
    refine ix_i e1 (by rfl) ?_
    repeat walk_at "vm"
    refine div_i (log_small hn hn2) ?_
    repeat walk_at "vm"
    refine ⟨_, _, _, _, rfl, h, rfl, rfl, ?_⟩
    repeat walk_at "vm"
    exact k _ (x / n, y, z) (Int.emod_nonneg _ (by omega)) (Int.emod_lt_of_pos _ hn) ⟨Int.ediv_nonneg hx0 (by omega), hy0, hy1, hz0, by show z ≤ b + 1; omega⟩
  · repeat walk_at "vm"
    dsimp only
    repeat walk_at "vm"
    refine ix_i e1 (by rfl) ?_
    repeat walk_at "vm"
    refine ⟨_, _, _, _, rfl, h, rfl, rfl, ?_⟩
    have e3 : seqE (eupd eh a (some (.lst ([EV.int x, .int y, .int z].set 2 (.int (z + 1)))))) (.ref a) = some [.int x, .int y, .int (z + 1)] := by simp only [seqE, eupd_same]; rfl
    repeat walk_at "vm"
    refine ix_i e3 (by rfl) ?_
    repeat walk_at "vm"
    refine ix_i e3 (by rfl) ?_
    refine mul_i (.inl (.inl (by constructor <;> decide))) ?_
    repeat walk_at "vm"
    refine pow_i ⟨by decide, ?_⟩ ?_
    · have hb1 : Builtin.Int.intBits (y + 15488653 * (z + 1)) ≤ 100 := bits_of (by omega)
      omega
    repeat walk_at "vm"
    refine mod_i (by decide) ?_
    dsimp only
    generalize hw : (y + 15488653 * (z + 1)) ^ (3 : Int).toNat % 162259276829213363391578010288127 = w
    have hw0 : 0 ≤ w := by rw [← hw]; exact Int.emod_nonneg _ (by decide)
    have hw1 : w < 162259276829213363391578010288127 := by rw [← hw]; exact Int.emod_lt_of_pos _ (by decide)
    repeat walk_at "vm"
    refine ix_i e3 (by rfl) ?_
    refine mul_i (.inl (.inl (by constructor <;> decide))) ?_
    repeat walk_at "vm"
    refine pow_i ⟨by decide, ?_⟩ ?_
    · have hb1 : Builtin.Int.intBits (w + 32454427 * (z + 1)) ≤ 120 := bits_of (by omega)
      omega
    repeat walk_at "vm"
    refine mod_i (by decide) ?_
    dsimp only
    generalize (w + 32454427 * (z + 1)) ^ (5 : Int).toNat % 170141183460469231731687303715884105727 = u
    repeat walk_at "vm"
    refine div_i (by decide) ?_
    repeat walk_at "vm"
    refine mod_i hn ?_
    exact k _ (x, y, z + 1) (Int.emod_nonneg _ (by omega)) (Int.emod_lt_of_pos _ hn) ⟨hx0, hy0, hy1, by show 0 ≤ z + 1; omega, by show z + 1 ≤ b + 1; omega⟩

/-! ### what a call leaves -/
def Fr (eh : Eh) (a : Addr) (s : Int × Int × Int) (eh' : Eh) : Prop := (∀ c, eh c ≠ none → c ≠ a → eh' c = eh c) ∧ eh' a = some (rgO s)
theorem Fr.dr {eh eh' : Eh} {a : Addr} {s : Int × Int × Int} (f : Fr eh a s eh') (h : eh a ≠ none) : drE (nw eh) eh' = eupd eh a (some (rgO s)) := by
  funext c
  unfold drE nw eupd
  by_cases hc : c = a
  · subst hc; cases e : eh c <;> simp_all [f.2]
  · cases e : eh c with
    | none => simp [hc]
    | some o => simp only [Option.isNone_some, Bool.false_eq_true, if_false, if_neg hc]; rw [f.1 c (by simp [e]) hc, e]
theorem Fr.one {eh : Eh} {a : Addr} {s : Int × Int × Int} : Fr eh a s (eupd eh a (some (rgO s))) := ⟨fun _ _ n => eupd_ne n, eupd_same⟩
theorem Fr.trans {eh eh1 eh2 : Eh} {a : Addr} {s s' : Int × Int × Int} (f : Fr eh a s eh1) (g : Fr eh1 a s' eh2) : Fr eh a s' eh2 := ⟨fun c h n => by rw [g.1 c (by rw [f.1 c h n]; exact h) n, f.1 c h n], g.2⟩
theorem draw_fz {S : Addr → Bool} {xc : XC} {a : Addr} {s : Int × Int × Int} {n b : Int} {eh : Eh} {q : KE} (hS : S = nw eh) (h : eh a = some (rgO s)) (hs : RgOk b s) (hb : b ≤ 1000000000) (hn : 0 < n) (hn2 : n < 2 ^ 200)
    (k : ∀ v s', 0 ≤ v → v < n → RgOk (b + 1) s' → q (.int v) (eupd eh a (some (rgO s')))) : ([EV.ref a, .int n] ++ []).length = 2 ∧ FZ S fn__law_draw xc ([EV.ref a, .int n] ++ []) eh q :=
  ⟨rfl, draw_ok h hs hb hn hn2 fun v s' h0 h1 hs' => by rw [hS, drE_same (by rw [h]; simp)]; exact k v s' h0 h1 hs'⟩
theorem fz_strs {S : Addr → Bool} {eh : Eh} {k : Nat} (ws : List Str) : (ws.map EV.str).map (fz S eh k) = ws.map EV.str := by
  rw [List.map_map]; apply List.map_congr_left; intro w _; cases k <;> rfl
theorem fz_ints {S : Addr → Bool} {eh : Eh} {k : Nat} (ws : List Int) : (ws.map EV.int).map (fz S eh k) = ws.map EV.int := by
  rw [List.map_map]; apply List.map_congr_left; intro w _; cases k <;> rfl
/-! ### items mixed -/
theorem fzl {eh eh0 : Eh} {p : Addr} {xs ys : List EV} {k : Nat} (h0 : eh0 p = none) (h : eh p = some (.lst xs)) (e : xs.map (fz (nw eh0) eh k) = ys) : fz (nw eh0) eh (k + 1) (.ref p) = .lst ys := by
  simp only [fz, nw, h0, h, Option.isNone_none, if_true, e]
/-! ### vectors drawn -/
theorem szl {n : Nat} (h : n ≤ 1000) : n ≤ sizeLine := Nat.le_trans h (by decide)
theorem fz_tupI {S : Addr → Bool} {eh : Eh} {k : Nat} (ns : List Int) : fz S eh (k + 1) (.tup (ns.map .int)) = .tup (ns.map .int) := by
  show EV.tup ((ns.map EV.int).map (fz S eh k)) = _
  rw [fz_ints]
/-! ### rows drawn -/
structure Rd where
  t : Str
  v : List Int
  f : Int
structure Row where
  w : Str
  n : Int
  rs : List Rd
def rdE (r : Rd) : EV := .tup [.str r.t, .tup (r.v.map .int), .int r.f]
def rowE (r : Row) : EV := .tup [.str r.w, .int r.n, .lst (r.rs.map rdE)]
theorem fz_rd {S : Addr → Bool} {eh : Eh} {k : Nat} (r : Rd) : fz S eh (k + 2) (rdE r) = rdE r := by
  show EV.tup [fz S eh (k + 1) (.str r.t), fz S eh (k + 1) (.tup (r.v.map .int)), fz S eh (k + 1) (.int r.f)] = _
  rw [fz_tupI]; rfl
theorem fz_rds {S : Addr → Bool} {eh : Eh} {k : Nat} (rs : List Rd) : (rs.map rdE).map (fz S eh (k + 2)) = rs.map rdE := by
  rw [List.map_map]; exact List.map_congr_left fun r _ => fz_rd r
theorem sum_set {α : Type} (f : α → Nat) : ∀ (L : List α) (i : Nat) (t t' : α), L[i]? = some t → ((L.set i t').map f).sum + f t = (L.map f).sum + f t'
  | [], _, _, _, h => by simp at h
  | x :: L, 0, t, t', h => by simp at h; subst h; simp; omega
  | x :: L, i + 1, t, t', h => by
    have := sum_set f L i t t' (by simpa using h)
    simp only [List.set_cons_succ, List.map_cons, List.sum_cons]
    omega
theorem map_set_same {α β : Type} (f : α → β) : ∀ (L : List α) (i : Nat) (t t' : α), L[i]? = some t → f t' = f t → (L.set i t').map f = L.map f
  | [], _, _, _, h, _ => by simp at h
  | x :: L, 0, t, t', h, e => by simp at h; subst h; simp [e]
  | x :: L, i + 1, t, t', h, e => by simp [map_set_same f L i t t' (by simpa using h) e]
theorem mem_set {α : Type} : ∀ {L : List α} {i : Nat} {t' u : α}, u ∈ L.set i t' → u = t' ∨ ∃ j, j ≠ i ∧ L[j]? = some u
  | [], _, _, _, h => by simp at h
  | x :: L, 0, t', u, h => by
    simp at h
    rcases h with h | h
    · exact .inl h
    · obtain ⟨j, hj, e⟩ := List.getElem_of_mem h
      exact .inr ⟨j + 1, by omega, by simp [hj, e]⟩
  | x :: L, i + 1, t', u, h => by
    simp at h
    rcases h with h | h
    · exact .inr ⟨0, by omega, by simp [h]⟩
    · rcases mem_set h with h | ⟨j, hj, e⟩
      · exact .inl h
      · exact .inr ⟨j + 1, by omega, by simpa using e⟩
theorem nodup_at {α : Type} {L : List α} (h : L.Nodup) {i j : Nat} {x : α} (hi : L[i]? = some x) (hj : L[j]? = some x) : i = j := by
  obtain ⟨li, ei⟩ := List.getElem?_eq_some_iff.mp hi
  obtain ⟨lj, ej⟩ := List.getElem?_eq_some_iff.mp hj
  have pw := List.pairwise_iff_getElem.mp h
  rcases Nat.lt_trichotomy i j with hl | hl | hl
  · exact absurd (ei.trans ej.symm) (pw i j li lj hl)
  · exact hl
  · exact absurd (ej.trans ei.symm) (pw j i lj li hl)
theorem le_sum : ∀ {l : List Nat} {x : Nat}, x ∈ l → x ≤ l.sum
  | y :: l, x, h => by
    rcases List.mem_cons.mp h with rfl | h
    · simp
    · have := le_sum h
      simp; omega

theorem pos_part (w : Int) : 0 ≤ (if 0 < w then w else 0) := by split <;> omega
theorem pool_ok {xc : XC} {ns : List Int} {n : Nat} {eh : Eh} {q : KE} (hn : n < 10) (hl : ns.length ≤ 63) (k : ∀ p s, eh p = none → RgOk 0 s → q (.ref p) (eupd eh p (some (rgO s)))) : fn__law_pool xc [.scr ns, .int n] eh q := by
  unfold fn__law_pool ms__law_pool
  walk_at "go"
  refine len_i (xs := ns.map .int) rfl ?_
  walk_at "go"
  rw [List.length_map]
  have fin : ∀ g : Int, (sRet (mLstR (aCons (mCB bMax (aCons (mC (.int 0)) (aCons (mOp oSub (mCB bAbs (aCons (mVar 2) aNil)) (mOp oPow (mC (.int 10)) (mC (.int 18)))) aNil))) (aCons (mOp oAdd (mOp oMod (mVar 2) (mC (.int 2305843009213693951))) (mOp oMul (mC (.int 3367900543)) (mOp oAdd (mVar 1) (mC (.int 1))))) (aCons (mC (.int 0)) aNil))))) xc { nx := fun _ eh => q .non eh, rt := q } [some (.scr ns), some (.int n), some (.int g)] eh := fun g => by
    walk_at "go"
    refine pow_i (by decide) ?_
    walk_at "go"
    refine mod_i (by decide) ?_
    walk_at "go"
    refine mul_i (.inl (.inl (by constructor <;> decide))) ?_
    walk_at "go"
    intro p hp
    have h0 := Int.emod_nonneg g (show (2305843009213693951 : Int) ≠ 0 by decide)
    have h1 := Int.emod_lt_of_pos g (show (0 : Int) < 2305843009213693951 by decide)
    refine k p (if 0 < (if g < 0 then -g else g) - 10 ^ (18 : Int).toNat then (if g < 0 then -g else g) - 10 ^ (18 : Int).toNat else 0, g % 2305843009213693951 + 3367900543 * (n + 1), 0) hp ⟨pos_part _, ?_, ?_, Int.le_refl _, Int.le_refl _⟩
    · show 0 ≤ g % 2305843009213693951 + 3367900543 * ((n : Int) + 1); omega
    · show g % 2305843009213693951 + 3367900543 * ((n : Int) + 1) < 2 ^ 63; omega
  refine cD_i (fun h => ?_) (fun h => ?_)
  · walk_at "go"
    have hi : n < ns.length := by omega
    refine ix_i (xs := ns.map .int) (z := .int ns[n]) rfl (at_cells (List.getElem?_eq_getElem hi)) ?_
    exact fin _
  · exact fin 0

/-! ### vectors of the pool -/
structure PRow where
  w : Str
  n : Int
  t : Str
  v : List Int
def prowE (r : PRow) : EV := .tup [.str r.w, .int r.n, .str r.t, .tup (r.v.map .int)]
theorem okD_prow (r : PRow) : okD 2 (prowE r) = true := by
  show [EV.str r.w, .int r.n, .str r.t, .tup (r.v.map .int)].all (okD 1) = true
  refine List.all_eq_true.mpr fun x hx => ?_
  simp only [List.mem_cons, List.not_mem_nil, or_false] at hx
  rcases hx with rfl | rfl | rfl | rfl
  · rfl
  · rfl
  · rfl
  · exact List.all_eq_true.mpr fun y hy => by obtain ⟨i, _, rfl⟩ := List.mem_map.mp hy; rfl
def VecOk (dims : Int) (v : List Int) : Prop := v.length = dims.toNat ∧ ∀ n ∈ v, -5 ≤ n ∧ n ≤ 5
theorem eight_at {v w : Int} (h : 0 ≤ v ∧ v < 8) (hw : 0 ≤ w ∧ w < 11) : ∃ n : Int, atI [EV.int 0, .int 0, .int 1, .int (-1), .int 1, .int (-2), .int 2, .int (w - 5)] v = some (.int n) ∧ -5 ≤ n ∧ n ≤ 5 := by
  have : v = 0 ∨ v = 1 ∨ v = 2 ∨ v = 3 ∨ v = 4 ∨ v = 5 ∨ v = 6 ∨ v = 7 := by omega
  rcases this with rfl | rfl | rfl | rfl | rfl | rfl | rfl | rfl
  all_goals exact ⟨_, rfl, by omega, by omega⟩
theorem Fr.newp {eh eh1 : Eh} {a p : Addr} {s : Int × Int × Int} {o : Option EO} (f : Fr eh a s eh1) (hp : eh p = none) (n : p ≠ a) : Fr eh a s (eupd eh1 p o) :=
  ⟨fun c hc hca => by rw [eupd_ne (show c ≠ p from fun z => hc (by rw [z]; exact hp)), f.1 c hc hca], by rw [eupd_ne n.symm]; exact f.2⟩
theorem Fr.rg {eh eh1 : Eh} {a : Addr} {s s' : Int × Int × Int} (f : Fr eh a s eh1) : Fr eh a s' (eupd eh1 a (some (rgO s'))) :=
  ⟨fun c hc hca => by rw [eupd_ne hca, f.1 c hc hca], eupd_same⟩
theorem Fr.fresh {eh eh1 : Eh} {a p : Addr} {s : Int × Int × Int} (f : Fr eh a s eh1) (hp : eh1 p = none) : eh p = none ∧ p ≠ a := by
  have n : p ≠ a := fun z => by rw [z, f.2] at hp; cases hp
  refine ⟨?_, n⟩
  cases e : eh p with
  | none => rfl
  | some o => rw [f.1 p (by rw [e]; simp) n, e] at hp; cases hp
theorem pvec_fz {S : Addr → Bool} {xc : XC} {a pr : Addr} {s : Int × Int × Int} {dims b : Int} {rows : List PRow} {eh : Eh} {q : KE} (hS : S = nw eh) (h : eh a = some (rgO s)) (hs : RgOk b s) (hb : b + 20 ≤ 900000000) (hd0 : 1 ≤ dims) (hd1 : dims ≤ 3)
    (hr : eh pr = some (.lst (rows.map prowE))) (hl : rows.length ≤ 100) (hv : ∀ r ∈ rows, VecOk dims r.v)
    (k : ∀ (v : List Int) (s' : Int × Int × Int), VecOk dims v → RgOk (b + 20) s' → q (.tup (v.map .int)) (eupd eh a (some (rgO s')))) :
    ([EV.ref a, .int dims, .ref pr] ++ []).length = 3 ∧ FZ S fn__law_vector xc ([EV.ref a, .int dims, .ref pr] ++ []) eh q := by
  refine ⟨rfl, ?_⟩
  subst hS
  have hap : pr ≠ a := fun z => by
    subst z; rw [h] at hr
    cases rows with
    | nil => simp [rgO] at hr
    | cons r _ => simp [rgO, prowE] at hr
  unfold FZ fn__law_vector ms__law_vector
  have fin : ∀ (v : List Int) (s' : Int × Int × Int) (eh' : Eh), VecOk dims v → RgOk (b + 20) s' → Fr eh a s' eh' → q (fz (nw eh) eh' 9 (.tup (v.map .int))) (drE (nw eh) eh') := fun v s' eh' h1 h2 hf => by
    rw [hf.dr (by rw [h]; simp), fz_tupI]; exact k v s' h1 h2
  have e : ∀ T : List EV, T = T.map id := fun T => by simp
  walk_at "go"
  refine ⟨_, rfl, by omega, ?_⟩
  rw [e ((List.range _).map _)]
  refine comp_inv (fun acc L eh' => ∃ (ns : List Int) (s' : Int × Int × Int) (c : Int), acc = ns.map .int ∧ ns.length + L.length = dims.toNat ∧ (∀ n ∈ ns, -5 ≤ n ∧ n ≤ 5) ∧ eh' = eupd eh a (some (rgO s')) ∧ RgOk c s' ∧ c + 2 * L.length = b + 2 * dims.toNat) ⟨[], s, b, rfl, by simp, by simp, (eupd_self h).symm, hs, by simp⟩ (by simp; omega) ?_ ?_
  · rintro acc x L eh' ⟨ns, s', c, rfl, hn, hm, rfl, hs', hc⟩
    simp only [List.length_cons] at hn hc
    refine ⟨trivial, _, rfl, fun q' hq => ?_⟩
    unfold ce__law_vector_1
    walk_at "go"
    refine draw_fz rfl eupd_same hs' (by omega) (by omega) (by omega) fun w s1 w0 w1 hs1 => ?_
    rw [eupd_eupd]
    walk_at "go"
    refine draw_fz rfl eupd_same hs1 (by omega) (by omega) (by omega) fun v s2 v0 v1 hs2 => ?_
    rw [eupd_eupd]
    obtain ⟨n, hz, n0, n1⟩ := eight_at ⟨v0, v1⟩ ⟨w0, w1⟩
    refine ix_i (by rfl) hz ?_
    exact hq _ _ ⟨ns ++ [n], s2, c + 2, by simp, by simp; omega, fun m hm' => by
      rcases List.mem_append.mp hm' with h | h
      · exact hm m h
      · obtain rfl := List.mem_singleton.mp h; exact ⟨n0, n1⟩, rfl, hs2.mono (by omega), by omega⟩
  · rintro acc eh' ⟨ns, s', c, rfl, hn, hm, rfl, hs', hc⟩
    refine ⟨trivial, _, rfl, fun p hp => ?_⟩
    simp only [List.length_nil, Nat.add_zero] at hn hc
    have f1 : Fr eh a s' (eupd eh a (some (rgO s'))) := .one
    obtain ⟨hp0, hpa⟩ := f1.fresh hp
    have f2 : Fr eh a s' (eupd (eupd eh a (some (rgO s'))) p (some (.lst (ns.map .int)))) := f1.newp hp0 hpa
    have hv0 : VecOk dims ns := ⟨hn, hm⟩
    have hpr : pr ≠ p := fun z => by rw [z, hp0] at hr; cases hr
    walk_at "go"
    refine eq_i (n := 3) (m := 1) (x' := .lst (rows.map prowE)) (y' := .lst []) (decide (rows = [])) (fro_ref (by rw [eupd_ne hpr, eupd_ne hap]; exact hr)) fro_same (List.all_eq_true.mpr fun x hx => by obtain ⟨r, _, rfl⟩ := List.mem_map.mp hx; exact okD_prow r) rfl (by omega) (by omega) (by cases rows <;> simp) ?_
    rw [Bool.true_xor]
    have ret : ∀ {eh' : Eh} {p : Addr} {v : List Int} {s' : Int × Int × Int} {z4 z5 : Option EV}, Fr eh a s' eh' → eh' p = some (.lst (v.map .int)) → VecOk dims v → RgOk (b + 20) s' → (sRet (mCB bTuple (aCons (mVar 3) aNil))) xc { nx := fun x eh_1 => q (fz (nw eh) eh_1 9 EV.non) (drE (nw eh) eh_1), rt := fun x eh1 => q (fz (nw eh) eh1 9 x) (drE (nw eh) eh1) } [some (.ref a), some (.int dims), some (.ref pr), some (.ref p), z4, z5] eh' := fun {eh' p v s' z4 z5} f hp hv hs => by
      walk_at "go"
      refine tuple_i (xs := v.map .int) (by simp only [seqE, hp]) ?_
      exact fin v s' _ hv hs f
    refine ⟨_, rfl, ?_⟩
    refine cN_i (fun hne => ?_) (fun he => ?_)
    · have hs0 := hs'
      have hp2 : (eupd (eupd eh a (some (rgO s'))) p (some (.lst (ns.map .int)))) p = some (.lst (ns.map .int)) := eupd_same
      generalize (eupd (eupd eh a (some (rgO s'))) p (some (.lst (ns.map .int)))) = eh2 at f2 hp2 ⊢
      walk_at "go"
      refine draw_fz rfl f2.2 hs' (by omega) (by omega) (by omega) fun y s1 y0 y1 hs1 => ?_
      have f3 : Fr eh a s1 (eupd eh2 a (some (rgO s1))) := f2.rg
      have hp3 : (eupd eh2 a (some (rgO s1))) p = some (.lst (ns.map .int)) := by rw [eupd_ne hpa]; exact hp2
      generalize (eupd eh2 a (some (rgO s1))) = eh3 at f3 hp3 ⊢
      have hr3 : eh3 pr = some (.lst (rows.map prowE)) := by rw [f3.1 pr (by rw [hr]; simp) hap]; exact hr
      walk_at "go"
      refine cD_i (fun hy => ?_) (fun hy => ?_)
      · walk_at "go"
        refine lenL_i (fro_ref hr3) ?_
        walk_at "go"
        rw [List.length_map]
        have hpos : 0 < rows.length := List.length_pos_iff.mpr hne
        refine draw_fz rfl f3.2 hs1 (by omega) (by omega) (by omega) fun i s2 i0 i1 hs2 => ?_
        have f4 : Fr eh a s2 (eupd eh3 a (some (rgO s2))) := f3.rg
        generalize (eupd eh3 a (some (rgO s2))) = eh4 at f4 ⊢
        have hr4 : eh4 pr = some (.lst (rows.map prowE)) := by rw [f4.1 pr (by rw [hr]; simp) hap]; exact hr
        obtain ⟨j, rfl⟩ := Int.eq_ofNat_of_zero_le i0
        have hat : rows[j]? = some (rows[j]'(by omega)) := List.getElem?_eq_getElem (by omega)
        generalize rows[j]'(by omega) = r at hat
        have hrm : r ∈ rows := List.mem_of_getElem? hat
        refine ix_i (xs := rows.map prowE) (by simp only [seqE, hr4]) (at_cells hat) ?_
        walk_at "go"
        refine ix_i (xs := [.str r.w, .int r.n, .str r.t, .tup (r.v.map .int)]) (z := .tup (r.v.map .int)) rfl (by rfl) ?_
        walk_at "go"
        have hvr := hv r hrm
        refine comp_map (f := fun i => .int (0 - i)) trivial (by have := hvr.1; simp; omega) (fun x hx => asgx_i rfl fun q' hq' => ?_) ?_
        · unfold ce__law_vector_2
          walk_at "go"
          exact hq'
        refine ⟨_, rfl, fun p2 hp2 => ?_⟩
        have fv : VecOk dims (r.v.map fun i => 0 - i) := ⟨by rw [List.length_map]; exact hvr.1, fun n hn => by obtain ⟨m, hm, rfl⟩ := List.mem_map.mp hn; have := hvr.2 m hm; omega⟩
        have em : r.v.map (fun i => EV.int (0 - i)) = (r.v.map fun i => 0 - i).map .int := by rw [List.map_map]; rfl
        rw [em, List.nil_append]
        generalize r.v.map (fun i => 0 - i) = w at fv
        obtain ⟨h20, h2a⟩ := f4.fresh hp2
        have f5 : Fr eh a s2 (eupd eh4 p2 (some (.lst (w.map .int)))) := f4.newp h20 h2a
        have hp5 : (eupd eh4 p2 (some (.lst (w.map .int)))) p2 = some (.lst (w.map .int)) := eupd_same
        generalize (eupd eh4 p2 (some (.lst (w.map .int)))) = eh5 at f5 hp5 ⊢
        walk_at "go"
        refine draw_fz rfl f5.2 hs2 (by omega) (by omega) (by omega) fun y2 s3 y20 y21 hs3 => ?_
        have f6 : Fr eh a s3 (eupd eh5 a (some (rgO s3))) := f5.rg
        have hp6 : (eupd eh5 a (some (rgO s3))) p2 = some (.lst (w.map .int)) := by rw [eupd_ne h2a]; exact hp5
        generalize (eupd eh5 a (some (rgO s3))) = eh6 at f6 hp6 ⊢
        walk_at "go"
        refine cD_i (fun hy2 => ?_) (fun hy2 => ?_)
        · walk_at "go"
          refine draw_fz rfl f6.2 hs3 (by omega) (by omega) (by omega) fun ax s4 x0 x1 hs4 => ?_
          have f7 : Fr eh a s4 (eupd eh6 a (some (rgO s4))) := f6.rg
          have hp7 : (eupd eh6 a (some (rgO s4))) p2 = some (.lst (w.map .int)) := by rw [eupd_ne h2a]; exact hp6
          generalize (eupd eh6 a (some (rgO s4))) = eh7 at f7 hp7 ⊢
          obtain ⟨j2, rfl⟩ := Int.eq_ofNat_of_zero_le x0
          have hj : j2 < w.length := by rw [fv.1]; omega
          walk_at "go"
          refine ix_i (xs := w.map .int) (z := .int w[j2]) (by simp only [seqE, hp7]) (at_cells (List.getElem?_eq_getElem hj)) ?_
          walk_at "go"
          refine ⟨p2, _, _, j2, rfl, hp7, rfl, ?_, ?_⟩
          · rw [List.length_map]; simp only [ixN]; rw [if_pos (by omega), if_pos (by omega)]; rfl
          have m5 : -5 ≤ w[j2] ∧ w[j2] ≤ 5 := fv.2 _ (List.getElem_mem hj)
          have mm : -5 ≤ (if -5 < if w[j2] + 1 < 5 then w[j2] + 1 else 5 then if w[j2] + 1 < 5 then w[j2] + 1 else 5 else -5) ∧ (if -5 < if w[j2] + 1 < 5 then w[j2] + 1 else 5 then if w[j2] + 1 < 5 then w[j2] + 1 else 5 else -5) ≤ 5 := by
            constructor <;> split <;> split <;> omega
          generalize (if -5 < if w[j2] + 1 < 5 then w[j2] + 1 else 5 then if w[j2] + 1 < 5 then w[j2] + 1 else 5 else -5) = mx at mm ⊢
          rw [show (w.map EV.int).set j2 (.int mx) = (w.set j2 mx).map .int from List.map_set.symm]
          have gv : VecOk dims (w.set j2 mx) := ⟨by rw [List.length_set]; exact fv.1, fun n hn => by
            rcases List.mem_or_eq_of_mem_set hn with h | rfl
            · exact fv.2 n h
            · exact mm⟩
          have f8 : Fr eh a s4 (eupd eh7 p2 (some (.lst ((w.set j2 mx).map .int)))) := f7.newp h20 h2a
          walk_at "go"
          refine tuple_i (xs := (w.set j2 mx).map .int) (by simp only [seqE, eupd_same]) ?_
          exact fin _ s4 _ gv (hs4.mono (by omega)) f8
        · walk_at "go"
          refine tuple_i (xs := w.map .int) (by simp only [seqE, hp6]) ?_
          exact fin w s3 _ fv (hs3.mono (by omega)) f6
      · walk_at "go"
        refine tuple_i (xs := ns.map .int) (by simp only [seqE, hp3]) ?_
        exact fin ns s1 _ hv0 (hs1.mono (by omega)) f3
    · walk_at "go"
      refine tuple_i (xs := ns.map .int) (by simp only [seqE, eupd_same]) ?_
      exact fin ns s' _ hv0 (hs'.mono (by omega)) f2

/-! ### tables of the pool -/
structure RowS where
  r : Row
  p : Addr
structure HpR (eh0 : Eh) (a : Addr) (eh : Eh) (L : List RowS) : Prop where
  at_ : ∀ t ∈ L, eh t.p = some (.lst (t.r.rs.map rdE))
  nd : (L.map (·.p)).Nodup
  new : ∀ t ∈ L, eh0 t.p = none ∧ t.p ≠ a
def rowS (t : RowS) : EV := .tup [.str t.r.w, .int t.r.n, .ref t.p]
theorem fz_rows {eh0 eh : Eh} {a : Addr} {L : List RowS} (h : HpR eh0 a eh L) : fz (nw eh0) eh 9 (.lst (L.map rowS)) = .lst ((L.map (·.r)).map rowE) := by
  show EV.lst ((L.map rowS).map (fz (nw eh0) eh 8)) = _
  rw [List.map_map, List.map_map]
  congr 1
  apply List.map_congr_left
  intro t ht
  show EV.tup [fz (nw eh0) eh 7 (.str t.r.w), fz (nw eh0) eh 7 (.int t.r.n), fz (nw eh0) eh 7 (.ref t.p)] = _
  rw [fzl (h.new t ht).1 (h.at_ t ht) (fz_rds t.r.rs)]; rfl
structure PRd (dims : Int) (ws : List Str) (x : Rd) : Prop where
  t : x.t ∈ ws
  v : VecOk dims x.v
  f : x.f ≠ 0 ∧ -10 ≤ x.f ∧ x.f ≤ 10
theorem two_at {v x y : Int} (h : 0 ≤ v ∧ v < 2) {P : Int → Prop} (hx : P x) (hy : P y) : ∃ n : Int, atI [EV.int x, .int y] v = some (.int n) ∧ P n := by
  have : v = 0 ∨ v = 1 := by omega
  rcases this with rfl | rfl
  · exact ⟨_, rfl, hx⟩
  · exact ⟨_, rfl, hy⟩
theorem four_at {v : Int} (h : 0 ≤ v ∧ v < 4) : ∃ n : Int, atI [EV.int 1, .int 2, .int (-1), .int (-9)] v = some (.int n) ∧ n ≠ 0 ∧ -10 ≤ n ∧ n ≤ 10 := by
  have : v = 0 ∨ v = 1 ∨ v = 2 ∨ v = 3 := by omega
  rcases this with rfl | rfl | rfl | rfl
  all_goals exact ⟨_, rfl, by omega, by omega, by omega⟩
structure Tb (eh0 : Eh) (a pr : Addr) (dims : Int) (ws : List Str) (ps : List Addr) (M : Nat) (s : Int × Int × Int) (eh : Eh) (H : List RowS) (prs : List PRow) : Prop where
  w : H.map (·.r.w) = ws
  p : H.map (·.p) = ps
  hp : HpR eh0 a eh H
  fr : Fr eh0 a s eh
  prh : eh pr = some (.lst (prs.map prowE))
  pr0 : eh0 pr = none ∧ pr ≠ a
  prn : pr ∉ ps
  pl : prs.length ≤ M
  pv : ∀ r ∈ prs, VecOk dims r.v
  tot : (H.map fun t => t.r.rs.length).sum ≤ M
  rd : ∀ t ∈ H, ∀ x ∈ t.r.rs, PRd dims ws x
theorem Tb.rg {eh0 : Eh} {a pr : Addr} {dims : Int} {ws : List Str} {ps : List Addr} {M : Nat} {s s' : Int × Int × Int} {eh : Eh} {H : List RowS} {prs : List PRow} (h : Tb eh0 a pr dims ws ps M s eh H prs) : Tb eh0 a pr dims ws ps M s' (eupd eh a (some (rgO s'))) H prs :=
  ⟨h.w, h.p, ⟨fun t ht => by rw [eupd_ne (h.hp.new t ht).2]; exact h.hp.at_ t ht, h.hp.nd, h.hp.new⟩, h.fr.rg, by rw [eupd_ne h.pr0.2]; exact h.prh, h.pr0, h.prn, h.pl, h.pv, h.tot, h.rd⟩
theorem Tb.add {eh0 eh : Eh} {a pr : Addr} {dims : Int} {ws : List Str} {ps : List Addr} {M : Nat} {s : Int × Int × Int} {H : List RowS} {prs : List PRow} {i : Nat} {t : RowS} {x : Rd} {y : PRow} (h : Tb eh0 a pr dims ws ps M s eh H prs) (ht : H[i]? = some t) (hx : PRd dims ws x) (hy : VecOk dims y.v) :
    Tb eh0 a pr dims ws ps (M + 1) s (eupd (eupd eh t.p (some (.lst (t.r.rs.map rdE ++ [rdE x])))) pr (some (.lst (prs.map prowE ++ [prowE y])))) (H.set i ⟨⟨t.r.w, t.r.n, t.r.rs ++ [x]⟩, t.p⟩) (prs ++ [y]) := by
  have hmem : t ∈ H := List.mem_of_getElem? ht
  have hpt := h.hp.new t hmem
  have hset : (H.map (·.p))[i]? = some t.p := by simp [ht]
  have hprt : ∀ u ∈ H, u.p ≠ pr := fun u hu z => h.prn (by rw [← h.p, ← z]; exact List.mem_map.mpr ⟨u, hu, rfl⟩)
  let t' : RowS := ⟨⟨t.r.w, t.r.n, t.r.rs ++ [x]⟩, t.p⟩
  have hne : ∀ u ∈ H, ∀ j, j ≠ i → H[j]? = some u → u.p ≠ t.p := fun u _ j hj e z => hj (nodup_at h.hp.nd (x := t.p) (by simp [e, z]) hset)
  refine ⟨?_, ?_, ⟨fun u hu => ?_, ?_, fun u hu => ?_⟩, (h.fr.newp hpt.1 hpt.2).newp h.pr0.1 h.pr0.2, by rw [eupd_same]; simp, h.pr0, h.prn, by simp; exact h.pl, fun r hr => ?_, ?_, fun u hu z hz => ?_⟩
  · rw [map_set_same (fun t : RowS => t.r.w) H _ t t' ht rfl]; exact h.w
  · rw [map_set_same (fun t : RowS => t.p) H _ t t' ht rfl]; exact h.p
  · rcases mem_set hu with rfl | ⟨j, hj, e⟩
    · rw [eupd_ne (hprt t hmem), eupd_same]; simp
    · have hu' := List.mem_of_getElem? e
      rw [eupd_ne (hprt u hu'), eupd_ne (hne u hu' j hj e)]; exact h.hp.at_ u hu'
  · rw [map_set_same (fun t : RowS => t.p) H _ t t' ht rfl]; exact h.hp.nd
  · rcases mem_set hu with rfl | ⟨j, hj, e⟩
    · exact hpt
    · exact h.hp.new u (List.mem_of_getElem? e)
  · rcases List.mem_append.mp hr with hr | hr
    · exact h.pv r hr
    · obtain rfl := List.mem_singleton.mp hr; exact hy
  · have := sum_set (fun t : RowS => t.r.rs.length) H _ t t' ht
    have h2 := h.tot
    simp only [t', List.length_append, List.length_cons, List.length_nil] at this
    show ((H.set i t').map fun t => t.r.rs.length).sum ≤ M + 1
    simp only [t']
    omega
  · rcases mem_set hu with rfl | ⟨j, hj, e⟩
    · rcases List.mem_append.mp hz with hz | hz
      · exact h.rd t hmem z hz
      · obtain rfl := List.mem_singleton.mp hz; exact hx
    · exact h.rd u (List.mem_of_getElem? e) z hz
theorem tab_turn {xc : XC} {d : Dn} {eh0 eh : Eh} {a pr : Addr} {dims : Int} {ws : List Str} {ps : List Addr} {M : Nat} {s : Int × Int × Int} {b : Int} {H : List RowS} {prs : List PRow} {z2 z3 z7 z8 z9 z10 z11 z12 z13 : Option EV} (h : Tb eh0 a pr dims ws ps M s eh H prs) (hs : RgOk b s) (hb : b + 100 ≤ 800000000) (hd : 1 ≤ dims ∧ dims ≤ 3) (hM : M ≤ 50) (hws : 1 ≤ ws.length ∧ ws.length ≤ 6)
    (k : ∀ (s' : Int × Int × Int) (eh' : Eh) (H' : List RowS) (prs' : List PRow) (z7 z8 z9 z10 : Option EV), Tb eh0 a pr dims ws ps (M + 1) s' eh' H' prs' → RgOk (b + 30) s' → d.nx [some (.ref a), some (.int dims), z2, z3, some (.lst (ws.map .str)), some (.lst (ps.map .ref)), some (.ref pr), z7, z8, z9, z10, z11, z12, z13] eh') :
    bd__law_tables_3 xc d [some (.ref a), some (.int dims), z2, z3, some (.lst (ws.map .str)), some (.lst (ps.map .ref)), some (.ref pr), z7, z8, z9, z10, z11, z12, z13] eh := by
  have hHl : H.length = ws.length := by rw [← h.w]; simp
  unfold bd__law_tables_3
  walk_at "go"
  rw [List.length_map]
  refine draw_fz rfl h.fr.2 hs (by omega) (by omega) (by omega) fun v s1 v0 v1 hs1 => ?_
  have h1 := h.rg (s' := s1)
  generalize (eupd eh a (some (rgO s1))) = eh1 at h1 ⊢
  walk_at "go"
  rw [List.length_map]
  refine draw_fz rfl h1.fr.2 hs1 (by omega) (by omega) (by omega) fun v2 s2 v20 v21 hs2 => ?_
  have h2 := h1.rg (s' := s2)
  generalize (eupd eh1 a (some (rgO s2))) = eh2 at h2 ⊢
  walk_at "go"
  refine draw_fz rfl h2.fr.2 hs2 (by omega) (by omega) (by omega) fun v3 s3 v30 v31 hs3 => ?_
  have h3 := h2.rg (s' := s3)
  generalize (eupd eh2 a (some (rgO s3))) = eh3 at h3 ⊢
  obtain ⟨pl, hz, pl0, pl1⟩ := two_at (v := v3) (x := v) (y := v2) ⟨v30, v31⟩ (P := fun n => 0 ≤ n ∧ n < ws.length) ⟨v0, v1⟩ ⟨v20, v21⟩
  refine ix_i (by rfl) hz ?_
  walk_at "go"
  obtain ⟨i, rfl⟩ := Int.eq_ofNat_of_zero_le v0
  obtain ⟨j, rfl⟩ := Int.eq_ofNat_of_zero_le pl0
  have hi : i < ws.length := by omega
  have hj : j < ws.length := by omega
  refine ix_i (xs := ws.map .str) (z := .str ws[i]) rfl (at_cells (List.getElem?_eq_getElem hi)) ?_
  walk_at "go"
  have hiH : i < H.length := by omega
  have ht : H[i]? = some H[i] := List.getElem?_eq_getElem hiH
  generalize htd : H[i] = t at ht
  have hmem : t ∈ H := List.mem_of_getElem? ht
  have hpi : ps[i]? = some t.p := by rw [← h3.p]; simp [ht]
  refine ix_i (xs := ps.map .ref) (z := .ref t.p) rfl (at_cells hpi) ?_
  walk_at "go"
  refine lenL_i (fro_ref (h3.hp.at_ t hmem)) ?_
  walk_at "go"
  refine ix_i (xs := ws.map .str) (z := .str ws[j]) rfl (at_cells (List.getElem?_eq_getElem hj)) ?_
  walk_at "go"
  refine pvec_fz rfl h3.fr.2 hs3 (by omega) hd.1 hd.2 h3.prh (by have := h3.pl; omega) h3.pv fun vec s4 hv4 hs4 => ?_
  have h4 := h3.rg (s' := s4)
  generalize (eupd eh3 a (some (rgO s4))) = eh4 at h4 ⊢
  walk_at "go"
  let pv : PRow := ⟨ws[i], (t.r.rs.map rdE).length, ws[j], vec⟩
  refine ix_i (xs := ps.map .ref) (z := .ref t.p) rfl (at_cells hpi) ?_
  have hat4 := h4.hp.at_ t hmem
  refine ⟨⟨t.r.rs.map rdE, by simp only [lstE, hat4]⟩, ?_⟩
  walk_at "go"
  refine ix_i (xs := [.str ws[i], .int (t.r.rs.map rdE).length, .str ws[j], .tup (vec.map .int)]) (z := .str ws[j]) rfl (by rfl) ?_
  walk_at "go"
  refine ix_i (xs := [.str ws[i], .int (t.r.rs.map rdE).length, .str ws[j], .tup (vec.map .int)]) (z := .tup (vec.map .int)) rfl (by rfl) ?_
  walk_at "go"
  refine draw_fz rfl h4.fr.2 hs4 (by omega) (by omega) (by omega) fun v5 s5 v50 v51 hs5 => ?_
  have h5 := h4.rg (s' := s5)
  generalize (eupd eh4 a (some (rgO s5))) = eh5 at h5 ⊢
  obtain ⟨f, hzf, hf⟩ := four_at ⟨v50, v51⟩
  refine ix_i (by rfl) hzf ?_
  walk_at "go"
  have hlen : t.r.rs.length ≤ M := Nat.le_trans (le_sum (List.mem_map.mpr ⟨t, hmem, rfl⟩)) h5.tot
  refine ⟨t.r.rs.map rdE, h5.hp.at_ t hmem, szT (by simp; omega), ?_⟩
  have hpr5 : (eupd eh5 t.p (some (.lst (t.r.rs.map rdE ++ [rdE ⟨ws[j], vec, f⟩])))) pr = some (.lst (prs.map prowE)) := by
    rw [eupd_ne (fun z => h5.prn (by rw [z, ← h5.p]; exact List.mem_map.mpr ⟨t, hmem, rfl⟩))]; exact h5.prh
  have g := h5.add (x := ⟨ws[j], vec, f⟩) (y := pv) ht ⟨List.getElem_mem hj, hv4, hf⟩ hv4
  walk_at "go"
  refine ⟨⟨prs.map prowE, by simp only [lstE]; rw [show (EV.tup [.str ws[j], .tup (vec.map .int), .int f]) = rdE ⟨ws[j], vec, f⟩ from rfl, hpr5]⟩, ?_⟩
  walk_at "go"
  refine ⟨prs.map prowE, hpr5, szT (by have := h5.pl; simp; omega), ?_⟩
  exact k s5 _ _ _ _ _ _ _ g (hs5.mono (by omega))

/-! ### names, reads -/
def letters : Str := "abcdefghijklmnopqrstuvwxyz"
def inL (c : Nat) : Bool := !(Builtin.Str.occurrences letters ⟨#[c]⟩ 0 letters.length 1).isEmpty
def nameOk (w : Str) : Bool := decide (1 ≤ w.length) && (decide (w.length ≤ 8) && w.cps.toList.all inL)
theorem boolsE_map : ∀ bs : List Bool, boolsE (bs.map .bl) = some bs
  | [] => rfl
  | b :: bs => by simp [boolsE, boolsE_map bs]
theorem all_i {x : EV} {eh : Eh} {q : KE} {bs : List Bool} (e : lstE eh x = some (bs.map .bl)) (h : q (.bl (bs.all id)) eh) : bAll [x] eh q := ⟨_, _, e, boolsE_map bs, h⟩
theorem name_comp {es : Es} {q : KE} {eh : Eh} (he : 1 < es.length) : ∀ (cs : List Nat) (bs : List Bool), bs.length + cs.length ≤ 100 → q (.lst ((bs ++ cs.map inL).map .bl)) eh →
    compL (.nm 1) tYesE ce_is_name_1 [1] (fun _ => True) q (cs.map fun c => EV.str ⟨#[c]⟩) (bs.map .bl) es eh
  | [], bs, _, k => compL_nil trivial (by simpa using k)
  | c :: cs, bs, hl, k => by
    simp only [List.length_cons] at hl
    refine compL_cons trivial rfl ?_
    unfold ce_is_name_1
    repeat walk_at "vm"
    refine var_i (x := .str ⟨#[c]⟩) (by simp [wipeE, he]) ?_
    repeat walk_at "vm"
    show (List.map EV.bl bs).length < sizeLine ∧ compL (.nm 1) tYesE ce_is_name_1 [1] (fun _ => True) q (cs.map fun c => EV.str ⟨#[c]⟩) (bs.map .bl ++ [.bl (false ^^ inL c)]) es eh
    refine ⟨Nat.lt_of_lt_of_le (by rw [List.length_map]; exact (show bs.length < 200 by omega)) (by decide), ?_⟩
    have e : bs.map EV.bl ++ [.bl (false ^^ inL c)] = (bs ++ [inL c]).map .bl := by simp
    rw [e]
    exact name_comp he cs (bs ++ [inL c]) (by simp; omega) (by simpa using k)
theorem name_ok {xc : XC} {w : Str} {eh : Eh} {q : KE} (h : nameOk w = true) (k : q (.bl true) eh) : fn_is_name xc [.str w] eh q := by
  unfold nameOk at h
  simp only [Bool.and_eq_true, decide_eq_true_eq] at h
  obtain ⟨h1, h2, h3⟩ := h
  unfold fn_is_name ms_is_name
  repeat walk_at "vm"
  refine lenS_i (szl (by omega)) ?_
  repeat walk_at "vm"
  refine cD_i (fun _ => ?_) (fun z => absurd (show (1 : Int) ≤ (w.length : Int) by omega) z)
  repeat walk_at "vm"
  refine cD_i (fun _ => ?_) (fun z => absurd (show (w.length : Int) ≤ 8 by omega) z)
  repeat walk_at "vm"
  refine ⟨_, _, rfl, ?_⟩
  have hcl : w.cps.toList.length ≤ 100 := by
    have : w.cps.toList.length = w.length := by rw [Array.length_toList]; rfl
    omega
  refine name_comp (by simp) w.cps.toList [] (by simpa using hcl) ?_
  repeat walk_at "vm"
  refine all_i (bs := [] ++ w.cps.toList.map inL) rfl ?_
  have e : ([] ++ w.cps.toList.map inL).all id = true := by simpa using h3
  rw [e]; exact k
theorem name_fz {S : Addr → Bool} {xc : XC} {w : Str} {eh : Eh} {q : KE} (hS : S = nw eh) (h : nameOk w = true) (k : q (.bl true) eh) : ([EV.str w] ++ []).length = 1 ∧ FZ S fn_is_name xc ([EV.str w] ++ []) eh q :=
  ⟨rfl, name_ok h (by rw [hS, drE_self]; exact k)⟩
structure RdFit (dims : Int) (x : Rd) : Prop where
  t : nameOk x.t = true
  l : (x.v.length : Int) = dims
  f : x.f ≠ 0
theorem read_fz {S : Addr → Bool} {xc : XC} {x : Rd} {dims : Int} {eh : Eh} {q : KE} (hS : S = nw eh) (h : RdFit dims x) (k : q (.bl true) eh) : ([rdE x, EV.int dims] ++ []).length = 2 ∧ FZ S fn_is_read xc ([rdE x, EV.int dims] ++ []) eh q := by
  refine ⟨rfl, ?_⟩
  subst hS
  unfold FZ fn_is_read ms_is_read
  repeat walk_at "vm"
  refine ⟨_, rfl, ?_⟩
  repeat walk_at "vm"
  refine name_fz rfl h.t ?_
  repeat walk_at "vm"
  refine len_i (xs := x.v.map .int) rfl ?_
  repeat walk_at "vm"
  refine cD_i (fun _ => ?_) (fun z => absurd (by rw [List.length_map]; exact h.l) z)
  repeat walk_at "vm"
  have e : (!decide (x.f = 0)) = true := by simp [h.f]
  rw [e]
  dsimp only
  rw [drE_self]
  exact k

/-! ### systems checked -/
theorem inD_i {x y : EV} {eh : Eh} {q : KE} {kvs : List (Key × EV)} {k : Key} (hy : ∀ z, y ≠ .str z) (e : dctE eh y = some kvs) (ek : keyE x = some k) (h : q (.bl (getK kvs k).isSome) eh) : cIn false x y eh q := by
  unfold cIn
  split
  · exact absurd rfl (hy _)
  · exact .inr ⟨kvs, k, e, ek, by simpa using h⟩
theorem ninD_i {x y : EV} {eh : Eh} {q : KE} {kvs : List (Key × EV)} {k : Key} (hy : ∀ z, y ≠ .str z) (e : dctE eh y = some kvs) (ek : keyE x = some k) (h : q (.bl (!(getK kvs k).isSome)) eh) : cIn true x y eh q := by
  unfold cIn
  split
  · exact absurd rfl (hy _)
  · exact .inr ⟨kvs, k, e, ek, by simpa using h⟩
def foundE (ws : List Str) : List (Key × EV) := ws.map fun w => (.inr w, .bl true)
theorem getK_found : ∀ (ws : List Str) (w : Str), (getK (foundE ws) (.inr w)).isSome = decide (w ∈ ws)
  | [], w => rfl
  | v :: ws, w => by
    show (if (Sum.inr v : Key) = .inr w then some (EV.bl true) else getK (foundE ws) (.inr w)).isSome = _
    by_cases h : v = w
    · subst h; simp
    · have h' : w ≠ v := fun z => h z.symm
      rw [if_neg (fun z => h (Sum.inr.inj z)), getK_found ws w]; simp [h']
theorem put_found {ws : List Str} {w : Str} (h : w ∉ ws) : putKE (foundE ws) (.inr w) (.bl true) = foundE (ws ++ [w]) := by
  unfold putKE
  rw [if_neg]
  · simp [foundE]
  · simp only [foundE, List.any_map, List.any_eq_true, Function.comp, decide_eq_true_eq, not_exists, not_and]
    intro v hv e
    exact h (Sum.inr.inj e ▸ hv)
theorem reads_comp {es : Es} {q : KE} {eh : Eh} {dims : Int} (he : 13 < es.length) (h0 : es[0]? = some (some (.int dims))) : ∀ (rs : List Rd) (bs : List Bool), bs.length + rs.length ≤ 100 → (∀ x ∈ rs, RdFit dims x) → q (.lst ((bs ++ rs.map fun _ => true).map .bl)) eh →
    compL (.nm 13) tYesE ce_check_system_1 [13] (fun _ => True) q (rs.map rdE) (bs.map .bl) es eh
  | [], bs, _, _, k => compL_nil trivial (by simpa using k)
  | x :: rs, bs, hl, hx, k => by
    simp only [List.length_cons] at hl
    refine compL_cons trivial rfl ?_
    unfold ce_check_system_1
    repeat walk_at "vm"
    refine var_i (x := rdE x) (by simp [wipeE, he]) ?_
    repeat walk_at "vm"
    refine var_i (x := .int dims) (by simp [wipeE, h0]) ?_
    repeat walk_at "vm"
    refine read_fz rfl (hx x (by simp)) ?_
    refine ⟨Nat.lt_of_lt_of_le (by rw [List.length_map]; exact (show bs.length < 200 by omega)) (by decide), ?_⟩
    have e : bs.map EV.bl ++ [.bl true] = (bs ++ [true]).map .bl := by simp
    rw [e]
    exact reads_comp he h0 rs (bs ++ [true]) (by simp; omega) (fun y hy => hx y (by simp [hy])) (by simpa using k)
theorem all_true {α : Type} : ∀ rs : List α, (([] : List Bool) ++ rs.map fun _ => true).all id = true
  | [] => rfl
  | _ :: rs => by simpa using all_true rs
structure RowFit (dims : Int) (r : Row) : Prop where
  w : nameOk r.w = true
  rd : ∀ x ∈ r.rs, RdFit dims x
theorem check1 {xc : XC} {d : Dn} {p : Addr} {dims md : Int} {T : EV} {ok : Eh → Prop} (hok : ∀ eh v, ok eh → ok (eupd eh p v)) : ∀ (rows : List Row) (g : Nat → Int) (ws : List Str) (many : Nat) (z5 z6 z7 z8 z9 z10 z11 z12 z13 : Option EV) (eh : Eh), ok eh → (∀ r ∈ rows, RowFit dims r) → (ws ++ rows.map (·.w)).Nodup → ws.length + rows.length ≤ 100 → many + (rows.map fun r => r.rs.length).sum ≤ 12 → eh p = some (.dct (foundE ws)) →
    (∀ (many : Int) (z5 z6 z7 z8 z9 z10 z11 z12 z13 : Option EV), d.nx [some (.int dims), some T, some (.int md), some (.ref p), some (.int many), z5, z6, z7, z8, z9, z10, z11, z12, z13] (eupd eh p (some (.dct (foundE (ws ++ rows.map (·.w))))))) →
    forL (.tp [.nm 5, .tp [.nm 6, .nm 7, .nm 8]]) bd_check_system_2 ok xc d ((rows.map rowE).mapIdx fun i x => .tup [.int (g i), x]) [some (.int dims), some T, some (.int md), some (.ref p), some (.int many), z5, z6, z7, z8, z9, z10, z11, z12, z13] eh
  | [], g, ws, many, z5, z6, z7, z8, z9, z10, z11, z12, z13, eh, ho, _, _, _, _, hp, k => by
    refine forL_nil ho ?_
    have := k many z5 z6 z7 z8 z9 z10 z11 z12 z13
    simp only [List.map_nil, List.append_nil] at this
    rwa [eupd_self hp] at this
  | r :: rows, g, ws, many, z5, z6, z7, z8, z9, z10, z11, z12, z13, eh, ho, hf, hn, hl, hm, hp, k => by
    simp only [List.map_cons, List.sum_cons, List.length_cons] at hm hl
    rw [List.map_cons, List.mapIdx_cons]
    refine forL_cons ho rfl ?_
    have hr := hf r (by simp)
    have hnw : r.w ∉ ws := fun z => by
      rw [List.map_cons] at hn
      exact (List.nodup_append.mp hn).2.2 r.w z r.w (by simp) rfl
    unfold bd_check_system_2
    repeat walk_at "vm"
    refine len_i (xs := r.rs.map rdE) rfl ?_
    rw [List.length_map]
    repeat walk_at "vm"
    dsimp only
    repeat walk_at "vm"
    refine name_fz rfl hr.w ?_
    repeat walk_at "vm"
    refine cF_i ?_
    repeat walk_at "vm"
    refine inD_i (kvs := foundE ws) (by simp) (by simp only [dctE, hp]) rfl ?_
    rw [getK_found]
    repeat walk_at "vm"
    refine cD_i (fun z => absurd z hnw) (fun _ => ?_)
    repeat walk_at "vm"
    refine ⟨_, rfl, ?_⟩
    refine cD_i (fun z => absurd z (show ¬ (12 : Int) < (many : Int) + (r.rs.length : Int) by omega)) (fun _ => ?_)
    repeat walk_at "vm"
    refine ⟨_, _, rfl, ?_⟩
    refine reads_comp (dims := dims) (by simp) rfl r.rs [] (by simp; omega) hr.rd ?_
    repeat walk_at "vm"
    refine all_i (bs := [] ++ r.rs.map fun _ => true) rfl ?_
    rw [all_true]
    refine ⟨_, rfl, ?_⟩
    refine cF_i ?_
    repeat walk_at "vm"
    dsimp only
    repeat walk_at "vm"
    refine ⟨_, _, _, rfl, hp, rfl, ?_, ?_⟩
    · rw [show (foundE ws).length = ws.length by simp [foundE]]
      exact Nat.lt_of_lt_of_le (show ws.length < 200 by omega) (by decide)
    rw [put_found hnw]
    refine check1 hok rows (fun i => g (i + 1)) (ws ++ [r.w]) (many + r.rs.length) _ _ _ _ _ _ _ _ _ _ (hok _ _ ho) (fun y hy => hf y (by simp [hy])) (by simpa using hn) (by simp; omega) (by omega) eupd_same fun m z5 z6 z7 z8 z9 z10 z11 z12 z13 => ?_
    rw [eupd_eupd]
    simpa using k m z5 z6 z7 z8 z9 z10 z11 z12 z13

theorem found_comp {es : Es} {q : KE} {eh : Eh} {p : Addr} {ws : List Str} (he : 12 < es.length) (h3 : es[3]? = some (some (.ref p))) (hp : eh p = some (.dct (foundE ws))) : ∀ (rs : List Rd) (bs : List Bool), bs.length + rs.length ≤ 100 → (∀ x ∈ rs, x.t ∈ ws) → q (.lst ((bs ++ rs.map fun _ => true).map .bl)) eh →
    compL (.tp [.nm 10, .nm 11, .nm 12]) tYesE ce_check_system_3 [10, 11, 12] (fun _ => True) q (rs.map rdE) (bs.map .bl) es eh
  | [], bs, _, _, k => compL_nil trivial (by simpa using k)
  | x :: rs, bs, hl, hx, k => by
    simp only [List.length_cons] at hl
    refine compL_cons trivial rfl ?_
    unfold ce_check_system_3
    repeat walk_at "vm"
    refine var_i (x := .str x.t) (by simp [wipeE, Nat.lt_trans (show 10 < 12 by decide) he]) ?_
    refine var_i (x := .ref p) (by simp [wipeE, h3]) ?_
    refine inD_i (kvs := foundE ws) (by simp) (by simp only [dctE, hp]) rfl ?_
    rw [getK_found]
    have ht : decide (x.t ∈ ws) = true := by simp [hx x (by simp)]
    rw [ht]
    refine ⟨Nat.lt_of_lt_of_le (by rw [List.length_map]; exact (show bs.length < 200 by omega)) (by decide), ?_⟩
    have e : bs.map EV.bl ++ [.bl true] = (bs ++ [true]).map .bl := by simp
    rw [e]
    exact found_comp he h3 hp rs (bs ++ [true]) (by simp; omega) (fun y hy => hx y (by simp [hy])) (by simpa using k)
theorem check2 {xc : XC} {d : Dn} {p : Addr} {dims md many : Int} {T : EV} {ok : Eh → Prop} {ws : List Str} {eh : Eh} (ho : ok eh) (hp : eh p = some (.dct (foundE ws))) : ∀ (rows : List Row) (g : Nat → Int) (z5 z6 z7 z8 z9 z10 z11 z12 z13 : Option EV), (∀ r ∈ rows, r.rs.length ≤ 90 ∧ ∀ x ∈ r.rs, x.t ∈ ws) →
    (∀ (z5 z6 z7 z8 z9 z10 z11 z12 z13 : Option EV), d.nx [some (.int dims), some T, some (.int md), some (.ref p), some (.int many), z5, z6, z7, z8, z9, z10, z11, z12, z13] eh) →
    forL (.tp [.nm 5, .tp [.nm 6, .nm 7, .nm 8]]) bd_check_system_4 ok xc d ((rows.map rowE).mapIdx fun i x => .tup [.int (g i), x]) [some (.int dims), some T, some (.int md), some (.ref p), some (.int many), z5, z6, z7, z8, z9, z10, z11, z12, z13] eh
  | [], g, z5, z6, z7, z8, z9, z10, z11, z12, z13, _, k => forL_nil ho (k z5 z6 z7 z8 z9 z10 z11 z12 z13)
  | r :: rows, g, z5, z6, z7, z8, z9, z10, z11, z12, z13, hf, k => by
    rw [List.map_cons, List.mapIdx_cons]
    refine forL_cons ho rfl ?_
    obtain ⟨hl, hr⟩ := hf r (by simp)
    unfold bd_check_system_4
    repeat walk_at "vm"
    refine ⟨_, _, rfl, ?_⟩
    refine found_comp (ws := ws) (by simp) rfl hp r.rs [] (by simp; omega) hr ?_
    repeat walk_at "vm"
    refine all_i (bs := [] ++ r.rs.map fun _ => true) rfl ?_
    rw [all_true]
    refine ⟨_, rfl, ?_⟩
    refine cF_i ?_
    repeat walk_at "vm"
    exact check2 ho hp rows (fun i => g (i + 1)) _ _ _ _ _ _ _ _ _ (fun y hy => hf y (by simp [hy])) k
structure SysFit (dims md : Int) (rows : List Row) : Prop where
  d : 1 ≤ dims ∧ dims ≤ 3
  l : 1 ≤ rows.length ∧ rows.length ≤ 6
  nd : (rows.map (·.w)).Nodup
  r : ∀ r ∈ rows, RowFit dims r
  t : (rows.map fun r => r.rs.length).sum ≤ 12
  m : 2 ≤ md
  tg : ∀ r ∈ rows, ∀ x ∈ r.rs, x.t ∈ rows.map (·.w)
theorem check_fz {S : Addr → Bool} {xc : XC} {dims md : Int} {rows : List Row} {eh : Eh} {q : KE} (hS : S = nw eh) (h : SysFit dims md rows) (k : q .non eh) : ([EV.int dims, .lst (rows.map rowE), .int md] ++ []).length = 3 ∧ FZ S fn_check_system xc ([EV.int dims, .lst (rows.map rowE), .int md] ++ []) eh q := by
  refine ⟨rfl, ?_⟩
  subst hS
  obtain ⟨d1, d2⟩ := h.d
  obtain ⟨l1, l2⟩ := h.l
  unfold FZ fn_check_system ms_check_system
  repeat walk_at "vm"
  refine cD_i (fun _ => ?_) (fun z => absurd d1 z)
  repeat walk_at "vm"
  have e2 : (!decide (dims ≤ 3)) = false := by simp [d2]
  rw [e2]
  repeat walk_at "vm"
  refine len_i (xs := rows.map rowE) rfl ?_
  rw [List.length_map]
  repeat walk_at "vm"
  refine cD_i (fun _ => ?_) (fun z => absurd (show (1 : Int) ≤ (rows.length : Int) by omega) z)
  repeat walk_at "vm"
  have e3 : (!decide ((rows.length : Int) ≤ 6)) = false := by simp; omega
  rw [e3]
  repeat walk_at "vm"
  intro p hp
  repeat walk_at "vm"
  refine ⟨szl (by simp), _, rfl, ?_⟩
  repeat walk_at "vm"
  refine ⟨_, _, _, rfl, rfl, ?_⟩
  refine check1 (md := md) (fun _ _ _ => trivial) rows (fun i => (i : Int)) [] 0 _ _ _ _ _ _ _ _ _ _ trivial h.r (by simpa using h.nd) (by simp; omega) (by simpa using h.t) eupd_same fun many z5 z6 z7 z8 z9 z10 z11 z12 z13 => ?_
  rw [eupd_eupd]
  repeat walk_at "vm"
  refine ⟨_, _, _, rfl, rfl, ?_⟩
  refine check2 (ws := [] ++ rows.map (·.w)) (md := md) trivial eupd_same rows (fun i => (i : Int)) z5 z6 z7 z8 z9 z10 z11 z12 z13 (fun r hr => ⟨?_, by simpa using h.tg r hr⟩) fun z5 z6 z7 z8 z9 z10 z11 z12 z13 => ?_
  · have : r.rs.length ≤ (rows.map fun r => r.rs.length).sum := le_sum (List.mem_map.mpr ⟨r, hr, rfl⟩)
    have := h.t
    omega
  repeat walk_at "vm"
  refine cD_i (fun z => absurd h.m (by omega)) (fun _ => ?_)
  repeat walk_at "vm"
  dsimp only
  have e : drE (nw eh) (eupd eh p (some (.dct (foundE ([] ++ rows.map (·.w)))))) = eh := by
    funext c
    unfold drE nw eupd
    by_cases hc : c = p
    · subst hc; simp [hp]
    · cases e : eh c <;> simp [hc, e]
  rw [e]
  exact k

/-! ### the tables that the pool draws -/
def SIGNS : List Str := ["b", "a", "ab", "m"]
def STA (k : Nat) : Str := L2.cutS "readin" none (some (k : Int))
def ttl (k m : Nat) : List Str := (SIGNS.take m).map fun w => STA k ++ w
theorem ttl_ok : ∀ k < 7, ∀ m < 5, (ttl k m).Nodup ∧ (∀ w ∈ ttl k m, nameOk w = true ∧ w ≠ "zz" ∧ chS w = true) ∧ (ttl k m).length = m ∧ (STA k).length ≤ 100 := by decide +kernel
structure PGood (dims most : Int) (rows : List Row) : Prop where
  len : 1 ≤ rows.length ∧ rows.length ≤ 4
  nd : (rows.map (·.w)).Nodup
  nm : ∀ r ∈ rows, nameOk r.w = true
  zz : ∀ r ∈ rows, r.w ≠ "zz"
  ch : ∀ r ∈ rows, chS r.w = true
  num : ∀ r ∈ rows, -4 ≤ r.n ∧ r.n ≤ 4
  tot : (((rows.map fun r => r.rs.length).sum : Nat) : Int) ≤ most
  rd : ∀ r ∈ rows, ∀ x ∈ r.rs, PRd dims (rows.map (·.w)) x
theorem bint_i (p : Prop) [Decidable p] {eh : Eh} {q : KE} (k : q (.int (if p then 1 else 0)) eh) : bInt [.bl (decide p)] eh q := by
  by_cases h : p
  · simp only [h, decide_true, if_true] at k ⊢; exact k
  · simp only [h, decide_false, if_false] at k ⊢; exact k
theorem ptables_fz {S : Addr → Bool} {xc : XC} {a : Addr} {s : Int × Int × Int} {dims most b : Int} {eh : Eh} {q : KE} (hS : S = nw eh) (h : eh a = some (rgO s)) (hs : RgOk b s) (hb : b + 2000 ≤ 700000000) (hd : 1 ≤ dims ∧ dims ≤ 3) (hm : 0 ≤ most ∧ most ≤ 20)
    (k : ∀ (rows : List Row) (s' : Int × Int × Int), PGood dims most rows → RgOk (b + 2000) s' → q (.lst (rows.map rowE)) (eupd eh a (some (rgO s')))) :
    ([EV.ref a, .int dims, .int most] ++ []).length = 3 ∧ FZ S fn__law_tables xc ([EV.ref a, .int dims, .int most] ++ []) eh q := by
  refine ⟨rfl, ?_⟩
  subst hS
  have ha : eh a ≠ none := by rw [h]; simp
  have e : ∀ T : List EV, T = T.map id := fun T => by simp
  unfold FZ fn__law_tables ms__law_tables
  walk_at "go"
  refine draw_fz rfl h hs (by omega) (by omega) (by omega) fun v s1 v0 v1 hs1 => ?_
  walk_at "go"
  refine draw_fz rfl eupd_same hs1 (by omega) (by omega) (by omega) fun v2 s2 v20 v21 hs2 => ?_
  rw [eupd_eupd]
  walk_at "go"
  refine bint_i (v2 = 0) ?_
  refine mul_i (.inl (.inl (by omega))) ?_
  obtain ⟨kk, ek, hk⟩ : ∃ kk : Nat, v * (if v2 = 0 then 1 else 0) = (kk : Int) ∧ kk < 7 := by
    by_cases hz : v2 = 0
    · exact ⟨v.toNat, by rw [if_pos hz]; omega, by omega⟩
    · exact ⟨0, by rw [if_neg hz]; omega, by omega⟩
  rw [ek]
  walk_at "go"
  refine ⟨szL (by decide +kernel), ?_⟩
  walk_at "go"
  refine draw_fz rfl eupd_same hs2 (by omega) (by omega) (by omega) fun v3 s3 v30 v31 hs3 => ?_
  rw [eupd_eupd]
  walk_at "go"
  obtain ⟨m, hm1⟩ : ∃ m : Nat, 1 + v3 = (m : Int) ∧ 1 ≤ m ∧ m < 5 := ⟨(1 + v3).toNat, by omega, by omega, by omega⟩
  rw [hm1.1]
  obtain ⟨nd, nm, tl, sl⟩ := ttl_ok kk hk m hm1.2.2
  refine slL_i (L := SIGNS.map .str) rfl ?_
  rw [cut_to, ← List.map_take]
  walk_at "go"
  refine comp_map (f := fun w => .str (STA kk ++ w)) trivial (by simp; omega) (fun w hw => asgx_i rfl fun q' hq' => ?_) ?_
  · walk_at "go"
    have wl : ∀ w ∈ SIGNS, w.length ≤ 10 := by decide +kernel
    have := wl w (List.mem_of_mem_take hw)
    refine ⟨szL (by show (STA kk).length + w.length ≤ 5000; omega), ?_⟩
    exact hq'
  rw [show (SIGNS.take m).map (fun w => EV.str (STA kk ++ w)) = (ttl kk m).map .str by unfold ttl; rw [List.map_map]; rfl, List.nil_append]
  generalize ttl kk m = ws at nd nm tl
  have hwl : 1 ≤ ws.length ∧ ws.length ≤ 4 := by omega
  walk_at "go"
  refine comp_inv (c := .str) (fun acc L eh' => ∃ (H : List RowS), acc = H.map (fun t => .ref t.p) ∧ H.map (·.r.w) ++ L = ws ∧ (∀ t ∈ H, t.r.rs = []) ∧ HpR eh a eh' H ∧ Fr eh a s3 eh') ⟨[], rfl, rfl, by simp, ⟨by simp, by simp, by simp⟩, .one⟩ (by simp; omega) ?_ ?_
  · rintro acc w L eh' ⟨H, rfl, hw, hr0, hh, hf⟩
    refine ⟨trivial, _, rfl, fun q' hq => ?_⟩
    walk_at "go"
    intro p hp
    obtain ⟨p0, pa⟩ := hf.fresh hp
    have hpL : ∀ t ∈ H, t.p ≠ p := fun t ht z => by have := hh.at_ t ht; rw [z, hp] at this; cases this
    refine hq _ _ ⟨H ++ [⟨⟨w, 0, []⟩, p⟩], by simp, by simp [← hw], fun t ht => ?_, ⟨fun t ht => ?_, ?_, fun t ht => ?_⟩, hf.newp p0 pa⟩
    · rcases List.mem_append.mp ht with ht | ht
      · exact hr0 t ht
      · obtain rfl := List.mem_singleton.mp ht; rfl
    · rcases List.mem_append.mp ht with ht | ht
      · rw [eupd_ne (hpL t ht)]; exact hh.at_ t ht
      · obtain rfl := List.mem_singleton.mp ht; rw [eupd_same]; rfl
    · simp only [List.map_append, List.map_cons, List.map_nil]
      refine List.nodup_append.mpr ⟨hh.nd, by simp, fun x hx y hy z => ?_⟩
      obtain ⟨t, ht, rfl⟩ := List.mem_map.mp hx
      simp at hy; exact hpL t ht (z.trans hy)
    · rcases List.mem_append.mp ht with ht | ht
      · exact hh.new t ht
      · obtain rfl := List.mem_singleton.mp ht; exact ⟨p0, pa⟩
  · rintro acc eh' ⟨H, rfl, hw, hr0, hh, hf⟩
    rw [List.append_nil] at hw
    refine ⟨trivial, ?_⟩
    walk_at "go"
    intro pr hpr
    walk_at "go"
    refine ⟨_, _, rfl, ?_⟩
    obtain ⟨pr0, pra⟩ := hf.fresh hpr
    have hpL : ∀ t ∈ H, t.p ≠ pr := fun t ht z => by have := hh.at_ t ht; rw [z, hpr] at this; cases this
    have T0 : Tb eh a pr dims ws (H.map (·.p)) 0 s3 (eupd eh' pr (some (.lst []))) H [] := ⟨hw, rfl, ⟨fun t ht => by rw [eupd_ne (hpL t ht)]; exact hh.at_ t ht, hh.nd, hh.new⟩, hf.newp pr0 pra, eupd_same, ⟨pr0, pra⟩, fun z => by obtain ⟨t, ht, e⟩ := List.mem_map.mp z; exact hpL t ht e, Nat.le_refl _, by simp, by
      have : ∀ l : List RowS, (∀ t ∈ l, t.r.rs = []) → (l.map fun t => t.r.rs.length).sum ≤ 0 := by
        intro l hl
        induction l with
        | nil => exact Nat.le_refl _
        | cons y l ih => have := ih fun t ht => hl t (by simp [ht]); simp [hl y (by simp)] at this ⊢; exact this
      exact this H hr0, fun t ht x hx => by rw [hr0 t ht] at hx; cases hx⟩
    rw [show H.map (fun t => EV.ref t.p) = (H.map (·.p)).map .ref by rw [List.map_map]; rfl]
    generalize (eupd eh' pr (some (.lst []))) = eh1 at T0 ⊢
    generalize H.map (·.p) = ps at T0
    walk_at "go"
    refine draw_fz rfl T0.fr.2 hs3 (by omega) (by omega) (by omega) fun v4 s4 v40 v41 hs4 => ?_
    have T1 := T0.rg (s' := s4)
    generalize (eupd eh1 a (some (rgO s4))) = eh2 at T1 ⊢
    walk_at "go"
    refine ⟨_, rfl, by omega, ?_⟩
    rw [e ((List.range _).map _)]
    refine for_inv (fun L es eh' => ∃ (H : List RowS) (prs : List PRow) (M : Nat) (s' : Int × Int × Int) (c : Int) (z7 z8 z9 z10 : Option EV), Tb eh a pr dims ws ps M s' eh' H prs ∧ M + L.length = v4.toNat ∧ RgOk c s' ∧ c + 30 * L.length ≤ b + 10 + 30 * v4.toNat ∧ es = [some (.ref a), some (.int dims), some (.int most), some (.str (STA kk)), some (.lst (ws.map .str)), some (.lst (ps.map .ref)), some (.ref pr), z7, z8, z9, z10, none, none, none]) ?_ ?_ ?_
    · exact ⟨H, [], 0, s4, _, _, _, _, _, T1, by simp, hs4, by simp; omega, rfl⟩
    · rintro x L es eh' ⟨H, prs, M, s', c, z7, z8, z9, z10, T, hM, hs', hc, rfl⟩
      simp only [List.length_cons] at hM hc
      refine ⟨trivial, asgx_i rfl fun d' _ hn _ _ => ?_⟩
      refine tab_turn T hs' (by omega) hd (by omega) (by omega) fun s5 eh5 H5 prs5 z7 z8 z9 z10 T5 hs5 => hn _ _ ⟨H5, prs5, M + 1, s5, c + 30, _, _, _, _, T5, by omega, hs5, by omega, rfl⟩
    · rintro es eh' ⟨H, prs, M, s', c, z7, z8, z9, z10, T, hM, hs', hc, rfl⟩
      refine ⟨trivial, ?_⟩
      walk_at "go"
      refine .inr ⟨_, _, _, _, rfl, rfl, ?_⟩
      have ez : (((ws.map EV.str).zip (ps.map EV.ref)).map fun p => EV.tup [p.1, p.2]) = H.map fun t => EV.tup [.str t.r.w, .ref t.p] := by
        rw [← T.w, ← T.p]
        have : ∀ H : List RowS, ((((H.map (·.r.w)).map EV.str).zip ((H.map (·.p)).map EV.ref)).map fun p => EV.tup [p.1, p.2]) = H.map fun t => EV.tup [.str t.r.w, .ref t.p] := by
          intro H
          induction H with
          | nil => rfl
          | cons t H ih => simpa using ih
        exact this H
      rw [ez]
      have hHl : H.length = ws.length := by rw [← T.w]; simp
      simp only [List.length_nil] at hM hc
      refine comp_inv (c := fun t : RowS => EV.tup [.str t.r.w, .ref t.p]) (fun acc L eh2 => ∃ (ds : List RowS) (s2 : Int × Int × Int) (c2 : Int), acc = ds.map rowS ∧ (ds ++ L).map (fun t : RowS => (t.r.w, t.r.rs, t.p)) = H.map (fun t : RowS => (t.r.w, t.r.rs, t.p)) ∧ (∀ t ∈ ds, -4 ≤ t.r.n ∧ t.r.n ≤ 4) ∧ Tb eh a pr dims ws ps M s2 eh2 H prs ∧ RgOk c2 s2 ∧ c2 + L.length ≤ c + 10) ⟨[], s', c, rfl, rfl, by simp, T, hs', by omega⟩ (by simp; omega) ?_ ?_
      · rintro acc t L eh2 ⟨ds, s2, c2, rfl, hds, hn, T2, hs2, hc2⟩
        simp only [List.length_cons] at hc2
        refine ⟨⟨trivial, trivial⟩, asgx_i rfl fun q' hq => ?_⟩
        unfold ce__law_tables_4
        walk_at "go"
        refine draw_fz rfl T2.fr.2 hs2 (by omega) (by omega) (by omega) fun v5 s5 v50 v51 hs5 => ?_
        walk_at "go"
        exact hq _ _ ⟨ds ++ [⟨⟨t.r.w, v5 - 4, t.r.rs⟩, t.p⟩], s5, c2 + 1, by simp [rowS], by rw [← hds]; simp, fun u hu => by
          rcases List.mem_append.mp hu with hu | hu
          · exact hn u hu
          · obtain rfl := List.mem_singleton.mp hu; exact ⟨by show -4 ≤ v5 - 4; omega, by show v5 - 4 ≤ 4; omega⟩, T2.rg, hs5, by omega⟩
      · rintro acc eh2 ⟨ds, s2, c2, rfl, hds, hn, T2, hs2, hc2⟩
        refine ⟨⟨trivial, trivial⟩, ?_⟩
        rw [List.append_nil] at hds
        have e1 : ds.map (·.r.w) = ws := by rw [← T2.w]; have := congrArg (List.map fun x : Str × List Rd × Addr => x.1) hds; simpa [List.map_map, Function.comp_def] using this
        have e2 : ds.map (·.p) = H.map (·.p) := by have := congrArg (List.map fun x : Str × List Rd × Addr => x.2.2) hds; simpa [List.map_map, Function.comp_def] using this
        have e3 : ds.map (fun t => t.r.rs.length) = H.map (fun t => t.r.rs.length) := by have := congrArg (List.map fun x : Str × List Rd × Addr => x.2.1.length) hds; simpa [List.map_map, Function.comp_def] using this
        have sig : ∀ t ∈ ds, ∃ u ∈ H, u.r.rs = t.r.rs ∧ u.p = t.p := fun t ht => by
          have : (t.r.w, t.r.rs, t.p) ∈ H.map (fun t : RowS => (t.r.w, t.r.rs, t.p)) := by rw [← hds]; exact List.mem_map.mpr ⟨t, ht, rfl⟩
          obtain ⟨u, hu, e⟩ := List.mem_map.mp this
          simp only [Prod.mk.injEq] at e
          exact ⟨u, hu, e.2.1, e.2.2⟩
        have hpd : HpR eh a eh2 ds := ⟨fun t ht => by
          obtain ⟨u, hu, h1, h2⟩ := sig t ht
          rw [← h2, ← h1]; exact T2.hp.at_ u hu, by rw [e2]; exact T2.hp.nd, fun t ht => by
          obtain ⟨u, hu, h1, h2⟩ := sig t ht
          rw [← h2]; exact T2.hp.new u hu⟩
        rw [T2.fr.dr ha, fz_rows hpd]
        have ew : (ds.map (·.r)).map (·.w) = ws := by rw [List.map_map, ← e1]; rfl
        have dl : ds.length = ws.length := by rw [← e1]; simp
        refine k (ds.map (·.r)) s2 ⟨by rw [List.length_map]; omega, by rw [ew]; exact nd, fun r hr => (nm r.w (by rw [← ew]; exact List.mem_map.mpr ⟨r, hr, rfl⟩)).1, fun r hr => (nm r.w (by rw [← ew]; exact List.mem_map.mpr ⟨r, hr, rfl⟩)).2.1, fun r hr => (nm r.w (by rw [← ew]; exact List.mem_map.mpr ⟨r, hr, rfl⟩)).2.2, fun r hr => ?_, ?_, fun r hr x hx => ?_⟩ (hs2.mono (by simp only [List.length_nil] at hc2; omega))
        · obtain ⟨t, ht, rfl⟩ := List.mem_map.mp hr; exact hn t ht
        · have : ((ds.map (·.r)).map fun r => r.rs.length) = ds.map fun t => t.r.rs.length := by rw [List.map_map]; rfl
          rw [this, e3]
          have := T2.tot
          omega
        · obtain ⟨t, ht, rfl⟩ := List.mem_map.mp hr
          obtain ⟨u, hu, h1, _⟩ := sig t ht
          rw [ew]; exact T2.rd u hu x (by rw [h1]; exact hx)

/-! ### systems made -/
def sortR (rows : List Row) : List Row := rows.mergeSort fun r r' => PySem.W.dataLe false key0 (rowE r) (rowE r')
theorem sortR_map (rows : List Row) : sortK0 (rows.map rowE) = (sortR rows).map rowE := by
  unfold sortK0 sortR
  exact (PySem.W.sort_maps (s := PySem.W.dataLe false key0) rowE fun _ _ _ _ => rfl).symm
theorem sortR_perm (rows : List Row) : (sortR rows).Perm rows := List.mergeSort_perm _ _
def tabV (r : Row) : EV := .tup [.int r.n, .tup (r.rs.map rdE)]
def tabE (rs : List Row) : List (Key × EV) := rs.map fun r => (.inr r.w, tabV r)
def namR (r : Row) : List EV := (List.range r.rs.length).map fun (i : Nat) => .tup [.str r.w, .int (i : Int)]
def namE (rs : List Row) : List EV := rs.flatMap namR
def sysE (dims md : Int) (rs : List Row) : EV := .obj "System" [("dimension_count", .int dims), ("kept_modulus", .int md), ("kept_tables", .dct (tabE rs)), ("named_reads", .tup (namE rs))]
theorem fz_tabV {S : Addr → Bool} {eh : Eh} {k : Nat} (r : Row) : fz S eh (k + 4) (tabV r) = tabV r := by
  show EV.tup [fz S eh (k + 3) (.int r.n), .tup ((r.rs.map rdE).map (fz S eh (k + 2)))] = _
  rw [fz_rds]; rfl
theorem fz_tab {S : Addr → Bool} {eh : Eh} {k : Nat} (rs : List Row) : ((tabE rs).map fun p => (p.1, fz S eh (k + 4) p.2)) = tabE rs := by
  unfold tabE
  rw [List.map_map]
  exact List.map_congr_left fun r _ => by show (Sum.inr r.w, fz S eh (k + 4) (tabV r)) = _; rw [fz_tabV]
theorem fz_nam {S : Addr → Bool} {eh : Eh} {k : Nat} (rs : List Row) : (namE rs).map (fz S eh (k + 2)) = namE rs := by
  unfold namE
  rw [List.map_flatMap]
  congr 1
  funext r
  unfold namR
  rw [List.map_map]
  exact List.map_congr_left fun _ _ => rfl
theorem put_tab {rs : List Row} {r : Row} (h : r.w ∉ rs.map (·.w)) : putKE (tabE rs) (.inr r.w) (tabV r) = tabE (rs ++ [r]) := by
  unfold putKE
  rw [if_neg]
  · simp [tabE]
  · simp only [tabE, List.any_map, List.any_eq_true, Function.comp, decide_eq_true_eq, not_exists, not_and]
    intro v hv e
    exact h (List.mem_map.mpr ⟨v, hv, Sum.inr.inj e⟩)
def fs3 (dims md : Int) (t : EV) : List (Str × EV) := [("dimension_count", .int dims), ("kept_modulus", .int md), ("kept_tables", t)]
theorem init_loop {xc : XC} {d : Dn} {p t : Addr} {dims md : Int} {T : EV} (hpt : t ≠ p) : ∀ (rs done : List Row) (z4 z5 z6 z7 : Option EV) (eh : Eh), (done.map (·.w) ++ rs.map (·.w)).Nodup → done.length + rs.length ≤ 100 → eh p = some (.ins "System" (fs3 dims md (.ref t))) → eh t = some (.dct (tabE done)) →
    (∀ z4 z5 z6 z7 : Option EV, d.nx [some (.ref p), some (.int dims), some T, some (.int md), z4, z5, z6, z7] (eupd eh t (some (.dct (tabE (done ++ rs)))))) →
    forL (.tp [.nm 4, .nm 5, .nm 6]) bd_System_init_1 (fun _ => True) xc d (rs.map rowE) [some (.ref p), some (.int dims), some T, some (.int md), z4, z5, z6, z7] eh
  | [], done, z4, z5, z6, z7, eh, _, _, _, ht, k => by
    have := k z4 z5 z6 z7
    rw [List.append_nil, eupd_self ht] at this
    exact forL_nil trivial this
  | r :: rs, done, z4, z5, z6, z7, eh, hn, hl, hp, ht, k => by
    refine forL_cons trivial rfl ?_
    simp only [List.length_cons] at hl
    have hnw : r.w ∉ done.map (·.w) := fun z => by
      rw [List.map_cons] at hn
      exact (List.nodup_append.mp hn).2.2 r.w z r.w (by simp) rfl
    unfold bd_System_init_1
    repeat walk_at "vm"
    refine tuple_i (xs := r.rs.map rdE) rfl ?_
    refine ⟨szl (by simp), ?_⟩
    repeat walk_at "vm"
    refine ⟨_, .ref t, by simp only [insE, hp]; rfl, by rfl, ?_⟩
    repeat walk_at "vm"
    refine ⟨_, _, _, rfl, ht, rfl, ?_, ?_⟩
    · rw [show (tabE done).length = done.length by simp [tabE]]
      exact Nat.lt_of_lt_of_le (show done.length < 200 by omega) (by decide)
    have e := put_tab hnw
    unfold tabV at e
    rw [e]
    refine init_loop hpt rs (done ++ [r]) _ _ _ _ _ (by simpa using hn) (by simp; omega) (by rw [eupd_ne hpt.symm]; exact hp) eupd_same fun z4 z5 z6 z7 => ?_
    rw [eupd_eupd]
    simpa using k z4 z5 z6 z7
theorem nam_in {es : Es} {eh : Eh} {r : Row} {k : List EV → Eh → Prop} (h7 : 7 < es.length) (h4 : es[4]? = some (some (.str r.w))) (hk : ∀ acc, k acc eh → True) : ∀ (is : List Nat) (acc : List EV), acc.length + is.length ≤ 200 → k (acc ++ is.map fun (i : Nat) => EV.tup [.str r.w, .int (i : Int)]) eh →
    comp2In (.nm 7) tYesE ce_System_init_2 [7] (fun _ => True) k (is.map fun (i : Nat) => .int (i : Int)) acc es eh
  | [], acc, _, h => ⟨trivial, by simpa using h⟩
  | i :: is, acc, hl, h => by
    simp only [List.length_cons] at hl
    refine ⟨trivial, _, rfl, ?_⟩
    show ce_System_init_2 xF _ eh _
    unfold ce_System_init_2
    repeat walk_at "vm"
    refine var_i (x := .str r.w) (by simp [wipeE, h4]) ?_
    repeat walk_at "vm"
    refine var_i (x := .int i) (by simp [wipeE, h7]) ?_
    repeat walk_at "vm"
    refine ⟨szl (by simp), Nat.lt_of_lt_of_le (show acc.length < 300 by omega) (by decide), ?_⟩
    exact nam_in h7 h4 hk is _ (by simp; omega) (by simpa using h)

theorem nam_out {p : Addr} {A B C : EV} {z4 z5 z6 z7 : Option EV} {q : KE} {eh : Eh} : ∀ (rs : List Row) (acc : List EV), acc.length + (rs.map fun r => r.rs.length).sum ≤ 100 → q (.lst (acc ++ namE rs)) eh →
    comp2L (.tp [.nm 4, .tp [.nm 5, .nm 6]]) tYesE (iRange1 (aCons (mCB bLen (aCons (mVar 6) aNil)) aNil)) (.nm 7) tYesE ce_System_init_2 [4, 5, 6, 7] [7] (fun _ => True) q ((tabE rs).map fun p => .tup [keyV p.1, p.2]) acc [some (.ref p), some A, some B, some C, z4, z5, z6, z7] eh
  | [], acc, _, k => ⟨trivial, by simpa [namE] using k⟩
  | r :: rs, acc, hl, k => by
    simp only [List.map_cons, List.sum_cons] at hl
    refine ⟨trivial, _, rfl, ?_⟩
    refine tyes_i ?_
    show iRange1 _ xF _ eh _
    repeat walk_at "vm"
    refine len_i (xs := r.rs.map rdE) rfl ?_
    rw [List.length_map]
    repeat walk_at "vm"
    refine ⟨_, rfl, by omega, ?_⟩
    rw [Int.toNat_natCast]
    refine nam_in (r := r) (by simp [wipeE]) rfl (fun _ _ => trivial) (List.range r.rs.length) acc (by simp; omega) ?_
    refine nam_out rs _ (by simp; omega) ?_
    simpa [namE, namR] using k
theorem fz_dct {S : Addr → Bool} {eh : Eh} {k : Nat} {a : Addr} {kvs : List (Key × EV)} (h : S a = true) (e : eh a = some (.dct kvs)) : fz S eh (k + 1) (.ref a) = .dct (kvs.map fun p => (p.1, fz S eh k p.2)) := by simp only [fz, h, e, if_true]
theorem fz_ins {S : Addr → Bool} {eh : Eh} {k : Nat} {a : Addr} {C : Str} {fs : List (Str × EV)} (h : S a = true) (e : eh a = some (.ins C fs)) : fz S eh (k + 1) (.ref a) = .obj C (fs.map fun p => (p.1, fz S eh k p.2)) := by simp only [fz, h, e, if_true]
theorem fz_dctT {S : Addr → Bool} {eh : Eh} {k : Nat} {rs : List Row} : fz S eh (k + 5) (.dct (tabE rs)) = .dct (tabE rs) := congrArg EV.dct (fz_tab (k := k) rs)
theorem fz_tupN {S : Addr → Bool} {eh : Eh} {k : Nat} {rs : List Row} : fz S eh (k + 3) (.tup (namE rs)) = .tup (namE rs) := congrArg EV.tup (fz_nam (k := k) rs)
theorem fz_int {S : Addr → Bool} {eh : Eh} {k : Nat} {i : Int} : fz S eh k (.int i) = .int i := by cases k <;> rfl
theorem sum_perm {f : Row → Nat} {xs ys : List Row} (h : xs.Perm ys) : (xs.map f).sum = (ys.map f).sum := (h.map f).sum_nat
theorem init_mz {S : Addr → Bool} {xc : XC} {dims md : Int} {rows : List Row} {eh : Eh} {q : KE} (hS : S = nw eh) (h : SysFit dims md rows) (k : q (sysE dims md (sortR rows)) eh) :
    MZ S "System" fn_System_init xc [.int dims, .lst (rows.map rowE), .int md] eh q := by
  subst hS
  intro p hp
  have hperm := sortR_perm rows
  unfold fn_System_init ms_System_init
  repeat walk_at "vm"
  refine check_fz rfl h ?_
  repeat walk_at "vm"
  refine ⟨p, [], rfl, eupd_same, by simp, ?_⟩
  repeat walk_at "vm"
  refine ⟨p, _, rfl, eupd_same, by simp [putE], ?_⟩
  rw [eupd_eupd, eupd_eupd]
  repeat walk_at "vm"
  intro t ht
  have hpt : t ≠ p := fun z => by rw [z, eupd_same] at ht; cases ht
  have ht0 : eh t = none := by rw [eupd_ne hpt] at ht; exact ht
  repeat walk_at "vm"
  have e2 : putE "kept_modulus" (.int md) (putE "dimension_count" (.int dims) []) = ([("dimension_count", EV.int dims), ("kept_modulus", EV.int md)] : List (Str × EV)) := by rfl
  refine ⟨p, _, rfl, by rw [eupd_ne hpt.symm, eupd_same], by rw [e2]; exact (show 2 < 1000 by decide), ?_⟩
  have e3 : putE "kept_tables" (.ref t) (putE "kept_modulus" (.int md) (putE "dimension_count" (.int dims) [])) = fs3 dims md (.ref t) := by rfl
  rw [e3]
  repeat walk_at "vm"
  refine ⟨_, rfl, List.all_eq_true.mpr fun x hx => by obtain ⟨r, _, rfl⟩ := List.mem_map.mp hx; rfl, ?_⟩
  refine ⟨_, _, rfl, ?_⟩
  rw [sortR_map]
  refine init_loop hpt (sortR rows) [] _ _ _ _ _ (by simpa using (hperm.map (·.w)).nodup_iff.mpr h.nd) (by have := h.l; simp [hperm.length_eq]; omega) eupd_same (by rw [eupd_ne hpt, eupd_same]; rfl) fun z4 z5 z6 z7 => ?_
  simp only [List.nil_append]
  refine fzF_i ⟨p, fs3 dims md (.ref t), t, rfl, by rw [eupd_ne hpt.symm, eupd_same], by rfl, hpt, ?_⟩
  have e4 : fz (fun b => b == t) (eupd (eupd (eupd (eupd eh p (some (.ins "System" (putE "kept_modulus" (.int md) (putE "dimension_count" (.int dims) []))))) t (some (.dct []))) p (some (.ins "System" (fs3 dims md (.ref t))))) t (some (.dct (tabE (sortR rows))))) 9 (.ref t) = .dct (tabE (sortR rows)) := by
    exact (fz_dct (k := 8) (by simp) eupd_same).trans (congrArg EV.dct (fz_tab (k := 4) _))
  rw [e4]
  have e5 : putE "kept_tables" (.dct (tabE (sortR rows))) (fs3 dims md (.ref t)) = fs3 dims md (.dct (tabE (sortR rows))) := by rfl
  rw [e5]
  repeat walk_at "vm"
  refine ⟨_, .dct (tabE (sortR rows)), by simp only [insE, eupd_same]; rfl, by rfl, ?_⟩
  refine ⟨_, rfl, ?_⟩
  refine nam_out (sortR rows) [] (by rw [sum_perm hperm]; have := h.t; simp; omega) ?_
  repeat walk_at "vm"
  refine tuple_i (xs := namE (sortR rows)) rfl ?_
  repeat walk_at "vm"
  refine ⟨p, _, rfl, eupd_same, by simp [fs3], ?_⟩
  dsimp only
  refine ⟨trivial, ?_⟩
  rw [eupd_eupd]
  have e6 : putE "named_reads" (.tup (namE (sortR rows))) (fs3 dims md (.dct (tabE (sortR rows)))) = ([("dimension_count", EV.int dims), ("kept_modulus", EV.int md), ("kept_tables", EV.dct (tabE (sortR rows))), ("named_reads", EV.tup (namE (sortR rows)))] : List (Str × EV)) := by rfl
  rw [e6]
  have e7 : fz (nw eh) (eupd (drE (fun b => b == t) (eupd (eupd (eupd (eupd eh p (some (.ins "System" (putE "kept_modulus" (.int md) (putE "dimension_count" (.int dims) []))))) t (some (.dct []))) p (some (.ins "System" (fs3 dims md (.ref t))))) t (some (.dct (tabE (sortR rows)))))) p (some (.ins "System" [("dimension_count", .int dims), ("kept_modulus", .int md), ("kept_tables", .dct (tabE (sortR rows))), ("named_reads", .tup (namE (sortR rows)))]))) 9 (.ref p) = sysE dims md (sortR rows) := by
    have hn : nw eh p = true := by simp [nw, hp]
    rw [fz_ins (k := 8) hn eupd_same]
    simp only [List.map_cons, List.map_nil]
    rw [fz_dctT (k := 3), fz_tupN (k := 5), fz_int (k := 8), fz_int (k := 8)]
    rfl
  rw [e7]
  have e8 : ∀ o o1 o2 o3 o4, drE (nw eh) (eupd (drE (fun b => b == t) (eupd (eupd (eupd (eupd eh p o) t o1) p o2) t o3)) p o4) = eh := fun o o1 o2 o3 o4 => by
    funext c
    unfold drE nw eupd
    by_cases hc : c = p
    · subst hc; simp [hp]
    · by_cases hc2 : c = t
      · subst hc2; simp [ht0]
      · cases e : eh c <;> simp [hc, hc2, e]
  rw [e8]
  exact k

/-! ### systems read -/
theorem getK_tab : ∀ {rs : List Row} {r : Row}, (rs.map (·.w)).Nodup → r ∈ rs → getK (tabE rs) (.inr r.w) = some (tabV r)
  | r' :: rs, r, hn, hr => by
    show (if (Sum.inr r'.w : Key) = .inr r.w then some (tabV r') else getK (tabE rs) (.inr r.w)) = _
    rw [List.map_cons, List.nodup_cons] at hn
    rcases List.mem_cons.mp hr with rfl | h
    · rw [if_pos rfl]
    · have : r'.w ≠ r.w := fun z => hn.1 (z ▸ List.mem_map.mpr ⟨r, h, rfl⟩)
      rw [if_neg (fun z => this (Sum.inr.inj z))]
      exact getK_tab hn.2 h
/-- the least of ints, 0 of none -/
def mnI : List Int → Int
  | [] => 0
  | n :: r => leastI n r
theorem minT_i {ns : List Int} {eh : Eh} {q : KE} (h : ns ≠ []) (k : q (.int (mnI ns)) eh) : bMin [.tup (ns.map .int)] eh q := by
  cases ns with
  | nil => exact absurd rfl h
  | cons n r => exact ⟨_, n, r, rfl, intsE_map (n :: r), k⟩
/-! ### the property names -/
theorem names_fz {S : Addr → Bool} {xc : XC} {dims md : Int} {rs : List Row} {eh : Eh} {q : KE} (hS : S = nw eh) (k : q (.lst (rs.map fun r => .str r.w)) eh) : FZ S fn_System_names xc [sysE dims md rs] eh q := by
  subst hS
  unfold FZ fn_System_names ms_System_names
  repeat walk_at "vm"
  refine ⟨_, .dct (tabE rs), rfl, by rfl, ?_⟩
  repeat walk_at "vm"
  refine ⟨tabE rs, rfl, ?_⟩
  dsimp only
  have e : (tabE rs).map (fun p => keyV p.1) = (rs.map (·.w)).map .str := by simp [tabE, keyV]
  rw [e, drE_self]
  have e2 : fz (nw eh) eh 9 (.lst ((rs.map (·.w)).map .str)) = .lst ((rs.map (·.w)).map .str) := congrArg EV.lst (fz_strs _)
  rw [e2, List.map_map]
  exact k

/-! ### tables and cells checked -/
theorem table_fz {S : Addr → Bool} {xc : XC} {dims md : Int} {rs : List Row} {r : Row} {eh : Eh} {q : KE} (hS : S = nw eh) (hn : (rs.map (·.w)).Nodup) (hr : r ∈ rs) (k : q .non eh) : ([sysE dims md rs, EV.str r.w] ++ []).length = 2 ∧ FZ S fn_check_table xc ([sysE dims md rs, EV.str r.w] ++ []) eh q := by
  refine ⟨rfl, ?_⟩
  subst hS
  unfold FZ fn_check_table ms_check_table
  repeat walk_at "vm"
  refine ⟨_, .dct (tabE rs), rfl, by rfl, ?_⟩
  refine ninD_i (kvs := tabE rs) (by simp) rfl rfl ?_
  rw [getK_tab hn hr]
  refine ⟨_, rfl, ?_⟩
  refine cF_i ?_
  repeat walk_at "vm"
  dsimp only
  rw [drE_self]
  exact k

/-! ### a system's constants and reads -/
theorem okD_rd (x : Rd) : okD 2 (rdE x) = true := by
  show [EV.str x.t, .tup (x.v.map .int), .int x.f].all (okD 1) = true
  simp only [List.all_cons, List.all_nil, Bool.and_true, okD_ints, okD_str, Bool.true_and]; rfl
theorem okD_rds (rs : List Rd) : okD 3 (.lst (rs.map rdE)) = true := okD_map fun x _ => okD_rd x
/-! ### systems as frozen values -/
theorem fz_sys {S : Addr → Bool} {eh : Eh} {dims md : Int} {rs : List Row} : fz S eh 9 (sysE dims md rs) = sysE dims md rs := by
  show EV.obj "System" [("dimension_count", fz S eh 8 (.int dims)), ("kept_modulus", fz S eh 8 (.int md)), ("kept_tables", fz S eh 8 (.dct (tabE rs))), ("named_reads", fz S eh 8 (.tup (namE rs)))] = _
  rw [fz_dctT (k := 3), fz_tupN (k := 5), fz_int, fz_int]; rfl
theorem fin_sys {eh eh1 : Eh} {dims md : Int} {rs : List Row} {q : KE} (k : Kp eh eh1) (h : q (sysE dims md rs) eh) : q (fz (nw eh) eh1 9 (sysE dims md rs)) (drE (nw eh) eh1) := by rw [fz_sys, k.dr]; exact h

/-! ### constants, reads, modulus of a system -/
theorem const_fz {S : Addr → Bool} {xc : XC} {dims md : Int} {rs : List Row} {r : Row} {eh : Eh} {q : KE} (hS : S = nw eh) (hn : (rs.map (·.w)).Nodup) (hr : r ∈ rs) (k : q (.int r.n) eh) : FZ S fn_System_constant xc [sysE dims md rs, .str r.w] eh q := by
  subst hS
  unfold FZ fn_System_constant ms_System_constant
  walk_at "go"
  refine table_fz rfl hn hr ?_
  walk_at "go"
  refine ⟨_, .dct (tabE rs), rfl, by rfl, ?_⟩
  walk_at "go"
  refine ixd_i (kvs := tabE rs) rfl rfl (getK_tab hn hr) ?_
  walk_at "go"
  refine ix_i (xs := [.int r.n, .tup (r.rs.map rdE)]) (z := .int r.n) rfl (by rfl) ?_
  exact fin_data (n := 0) .refl rfl k
theorem readsM_fz {S : Addr → Bool} {xc : XC} {dims md : Int} {rs : List Row} {r : Row} {eh : Eh} {q : KE} (hS : S = nw eh) (hn : (rs.map (·.w)).Nodup) (hr : r ∈ rs) (k : q (.lst (r.rs.map rdE)) eh) : FZ S fn_System_reads xc [sysE dims md rs, .str r.w] eh q := by
  subst hS
  unfold FZ fn_System_reads ms_System_reads
  walk_at "go"
  refine table_fz rfl hn hr ?_
  walk_at "go"
  refine ⟨_, .dct (tabE rs), rfl, by rfl, ?_⟩
  walk_at "go"
  refine ixd_i (kvs := tabE rs) rfl rfl (getK_tab hn hr) ?_
  walk_at "go"
  refine ix_i (xs := [.int r.n, .tup (r.rs.map rdE)]) (z := .tup (r.rs.map rdE)) rfl (by rfl) ?_
  walk_at "go"
  refine list_i rfl ?_
  exact fin_data (n := 3) .refl (okB_of (okD_rds _)) k
theorem mod_fz {S : Addr → Bool} {xc : XC} {dims md : Int} {rs : List Row} {eh : Eh} {q : KE} (hS : S = nw eh) (k : q (.int md) eh) : FZ S fn_System_modulus xc [sysE dims md rs] eh q := by
  subst hS
  unfold FZ fn_System_modulus ms_System_modulus
  walk_at "go"
  refine ⟨_, .int md, rfl, by rfl, ?_⟩
  exact fin_data (n := 0) .refl rfl k

/-! ### sorted rows -/
theorem rowLe_total : PySem.W.TotalLe (fun r r' : Row => PySem.W.dataLe false key0 (rowE r) (rowE r')) := by
  have T := PySem.W.sortLe_total (PyProof.Rows.listOrd PyProof.Rows.itemOrd) false fun b : EV => PySem.W.keyToks (key0 b)
  exact ⟨fun a b c h1 h2 => T.trans (rowE a) (rowE b) (rowE c) h1 h2, fun a b => T.total (rowE a) (rowE b)⟩
theorem sortR_pw (rows : List Row) : (sortR rows).Pairwise fun r r' => PySem.W.dataLe false key0 (rowE r) (rowE r') = true := PySem.W.sort_pairwise rowLe_total rows
theorem str_ext {a b : Str} (h : a.cps.toList = b.cps.toList) : a = b := by
  cases a; cases b
  simp only at h
  congr 1
  exact Array.toList_inj.mp h
theorem row_uniq {rows : List Row} (hn : (rows.map (·.w)).Nodup) {r r' : Row} (h : r ∈ rows) (h' : r' ∈ rows) (e : r.w = r'.w) : r = r' := by
  induction rows with
  | nil => cases h
  | cons x l ih =>
    rw [List.map_cons, List.nodup_cons] at hn
    rcases List.mem_cons.mp h with e1 | h1
    · rcases List.mem_cons.mp h' with e2 | h2
      · rw [e1, e2]
      · exact absurd (List.mem_map.mpr ⟨r', h2, by rw [← e1, e]⟩) hn.1
    · rcases List.mem_cons.mp h' with e2 | h2
      · exact absurd (List.mem_map.mpr ⟨r, h1, by rw [← e2, e]⟩) hn.1
      · exact ih hn.2 h1 h2
/-! ### == of systems -/
theorem eqKV_self {ka : List (Key × EV)} (hn : (ka.map (·.1)).Nodup) (hp : ∀ p ∈ ka, (D p.2).plain = true) : eqKV ka ka = true := by
  unfold eqKV
  simp only [beq_self_eq_true, Bool.true_and]
  refine List.all_eq_true.mpr fun k hk => ?_
  obtain ⟨⟨k', x⟩, hx, rfl⟩ := List.mem_map.mp hk
  have g := getK_nodup hn hx
  simp only [g, eK, Option.isSome_some, Bool.true_and]
  exact SeqAt.eqv_refl_plain _ (hp _ hx)
/-! ### systems: fewer reads, another order -/
theorem SysFit.sub {dims md : Int} {rows : List Row} (h : SysFit dims md rows) (f : Row → Row) (hw : ∀ r, (f r).w = r.w) (hs : ∀ r, ∀ x ∈ (f r).rs, x ∈ r.rs) (hl : ∀ r, (f r).rs.length ≤ r.rs.length) : SysFit dims md (rows.map f) := by
  have ew : (rows.map f).map (·.w) = rows.map (·.w) := by rw [List.map_map]; exact List.map_congr_left fun r _ => hw r
  refine ⟨h.d, by simpa using h.l, by rw [ew]; exact h.nd, fun r hr => ?_, ?_, h.m, fun r hr x hx => ?_⟩
  · obtain ⟨r', hr', rfl⟩ := List.mem_map.mp hr
    have z := h.r r' hr'
    exact ⟨by rw [hw]; exact z.w, fun x hx => z.rd x (hs r' x hx)⟩
  · refine Nat.le_trans ?_ h.t
    rw [List.map_map]
    have : ∀ l : List Row, (l.map ((fun r : Row => r.rs.length) ∘ f)).sum ≤ (l.map fun r => r.rs.length).sum := by
      intro l
      induction l with
      | nil => exact Nat.le_refl _
      | cons a l ih => simp only [List.map_cons, List.sum_cons, Function.comp]; exact Nat.add_le_add (hl a) ih
    exact this rows
  · obtain ⟨r', hr', rfl⟩ := List.mem_map.mp hr
    rw [ew]; exact h.tg r' hr' x (hs r' x hx)
theorem SysFit.perm {dims md : Int} {A B : List Row} (h : SysFit dims md A) (p : A.Perm B) : SysFit dims md B := by
  have pw := p.map (·.w)
  refine ⟨h.d, by rw [← p.length_eq]; exact h.l, pw.nodup_iff.mp h.nd, fun r hr => h.r r (p.mem_iff.mpr hr), ?_, h.m, fun r hr x hx => pw.mem_iff.mp (h.tg r (p.mem_iff.mpr hr) x hx)⟩
  rw [← sum_perm p]; exact h.t
theorem SysFit.sort {dims md : Int} {A : List Row} (h : SysFit dims md A) : SysFit dims md (sortR A) := h.perm (sortR_perm A).symm

/-! ### names in a sequence -/
theorem str_le {a b : Str} (h : ¬ b.cps.toList < a.cps.toList) (h' : ¬ a.cps.toList < b.cps.toList) : a = b := str_ext (List.le_antisymm (as := a.cps.toList) (bs := b.cps.toList) h h')
theorem risingS_pw : ∀ {r : List Str} {p : Str}, risingS p r = true → (p :: r).Pairwise fun a b => ¬ b.cps.toList < a.cps.toList
  | [], p, _ => by simp
  | x :: r, p, h => by
    have h : (!ltCps x.cps.toList p.cps.toList && risingS x r) = true := h
    rw [Bool.and_eq_true, ltCps_eq] at h
    have px : ¬ x.cps.toList < p.cps.toList := by simpa using h.1
    have ih := risingS_pw h.2
    refine List.pairwise_cons.mpr ⟨fun y hy => ?_, ih⟩
    rcases List.mem_cons.mp hy with rfl | hy
    · exact px
    · exact List.le_trans (α := Nat) (l₁ := p.cps.toList) (l₂ := x.cps.toList) (l₃ := y.cps.toList) px ((List.pairwise_cons.mp ih).1 y hy)
theorem sortedS_pw : ∀ {ys : List Str}, sortedS ys = true → ys.Pairwise fun a b => ¬ b.cps.toList < a.cps.toList
  | [], _ => .nil
  | x :: r, h => risingS_pw h
theorem rowLe_lt {r r' : Row} (h : PySem.W.dataLe false key0 (rowE r) (rowE r') = true) : ¬ r'.w.cps.toList < r.w.cps.toList := fun z => by
  have e : ∀ r : Row, PySem.W.keyToks (key0 (rowE r)) = [.inr r.w.cps.toList] := fun r => rfl
  unfold PySem.W.dataLe PySem.W.sortLe at h
  simp only [cond_false, Bool.not_eq_true', e] at h
  have h2 : (decide (r'.w.cps.toList < r.w.cps.toList) || (!decide (r.w.cps.toList < r'.w.cps.toList) && false)) = false := h
  simp [z] at h2
/-! the def Program: its state, its first defs -/
def grwE (w : Nat) (f : Nat → Int) : EV := .lst ((List.range w).map fun j => .int (f j))
def gridE (n m : Nat) (σ : Ps) : List EV := (List.range m).map (fun i => grwE (n + m + 1) (σ.g i)) ++ [grwE (n + m + 1) σ.z]
def basE (m : Nat) (σ : Ps) : List EV := (List.range m).map fun i => .int (σ.b i : Nat)
def progF (n m : Nat) (g b : Addr) (d : Int) (bd : Bool) : List (Str × EV) := [("width", .int n), ("height", .int m), ("grid", .ref g), ("bottom", .int d), ("basis", .ref b), ("is_bounded", .bl bd)]
/-- a program that is being worked at -/
structure AtP (eh : Eh) (p g b : Addr) (n m : Nat) (σ : Ps) (bd : Bool) : Prop where
  ins : eh p = some (.ins "Program" (progF n m g b σ.d bd))
  grid : eh g = some (.lst (gridE n m σ))
  bas : eh b = some (.lst (basE m σ))
theorem AtP.fs {eh : Eh} {p g b : Addr} {n m : Nat} {σ : Ps} {bd : Bool} (h : AtP eh p g b n m σ bd) : insE eh (.ref p) = some (("Program" : Str), progF n m g b σ.d bd) := by simp only [insE, h.ins]
/-! Program.exchange -/
def rwA (m : Nat) (σ : Ps) (i : Nat) : Nat → Int := if i < m then σ.g i else σ.z
/-- all entries are small -/
@[irreducible] def smlN : Nat := 2 ^ 4000
structure Sml (n m : Nat) (σ : Ps) : Prop where
  g : ∀ i < m, ∀ j ≤ n + m, (σ.g i j).natAbs < smlN
  z : ∀ j ≤ n + m, (σ.z j).natAbs < smlN
  d : 0 < σ.d ∧ σ.d.natAbs < smlN
theorem Sml.rw {n m : Nat} {σ : Ps} (B : Sml n m σ) {i j : Nat} (hj : j ≤ n + m) : (rwA m σ i j).natAbs < smlN := by
  unfold rwA
  split
  · rename_i h; exact B.g i h j hj
  · exact B.z j hj
theorem drop_range {N t : Nat} (h : t < N) : (List.range N).drop t = t :: (List.range N).drop (t + 1) := by
  rw [List.drop_eq_getElem_cons (by simpa using h)]; simp

/-! Program.step: the walk -/
/-! Program.__init__ -/
theorem isLst_ref {eh : Eh} {a : Addr} {L : List EV} (h : eh a = some (.lst L)) : isLst eh (.ref a) := ⟨L, by simp only [lstE, h]⟩
/-! the other defs of Program -/
/-! ### reads by name and number -/
def nI (x : Str × Int) : EV := .tup [.str x.1, .int x.2]
def rdI (rs : List Row) : List (Str × Int) := rs.flatMap fun r => (List.range r.rs.length).map fun (i : Nat) => (r.w, (i : Int))
theorem namE_rdI (rs : List Row) : namE rs = (rdI rs).map nI := by
  unfold namE rdI
  rw [List.map_flatMap]
  congr 1
  funext r
  unfold namR
  rw [List.map_map]; rfl
theorem okD_nI (x : Str × Int) : okD 1 (nI x) = true := by
  show [EV.str x.1, .int x.2].all (okD 0) = true
  rfl
theorem rdI_at {rs : List Row} {x : Str × Int} (h : x ∈ rdI rs) : ∃ r ∈ rs, ∃ i : Nat, ∃ y : Rd, x = (r.w, (i : Int)) ∧ r.rs[i]? = some y := by
  obtain ⟨r, hr, hx⟩ := List.mem_flatMap.mp h
  obtain ⟨i, hi, rfl⟩ := List.mem_map.mp hx
  have hi := List.mem_range.mp hi
  exact ⟨r, hr, i, r.rs[i], rfl, List.getElem?_eq_getElem hi⟩
/-- the read that a pair names -/
def rdOf (rs : List Row) (x : Str × Int) : Rd := match rs.find? fun r => decide (r.w = x.1) with
  | some r => (r.rs[x.2.toNat]?).getD ⟨"", [], 0⟩
  | none => ⟨"", [], 0⟩
abbrev tgI (rs : List Row) (x : Str × Int) : Str := (rdOf rs x).t
abbrev vcI (rs : List Row) (x : Str × Int) : List Int := (rdOf rs x).v
theorem find_row : ∀ {rs : List Row} {r : Row}, (rs.map (·.w)).Nodup → r ∈ rs → rs.find? (fun q => decide (q.w = r.w)) = some r
  | r' :: rs, r, hn, hr => by
    rw [List.map_cons, List.nodup_cons] at hn
    rcases List.mem_cons.mp hr with rfl | h
    · rw [List.find?_cons_of_pos (by simp)]
    · have : r'.w ≠ r.w := fun z => hn.1 (z ▸ List.mem_map.mpr ⟨r, h, rfl⟩)
      rw [List.find?_cons_of_neg (by simpa using this)]
      exact find_row hn.2 h
theorem rdOf_at {rs : List Row} {r : Row} {i : Nat} {y : Rd} (hn : (rs.map (·.w)).Nodup) (hr : r ∈ rs) (hy : r.rs[i]? = some y) : rdOf rs (r.w, (i : Int)) = y := by
  unfold rdOf
  rw [find_row hn hr]
  simp only [Int.toNat_natCast, hy, Option.getD_some]
theorem rdI_of {rs : List Row} {x : Str × Int} (hn : (rs.map (·.w)).Nodup) (h : x ∈ rdI rs) : ∃ r ∈ rs, ∃ i : Nat, x = (r.w, (i : Int)) ∧ r.rs[i]? = some (rdOf rs x) := by
  obtain ⟨r, hr, i, y, rfl, hy⟩ := rdI_at h
  exact ⟨r, hr, i, rfl, by rw [rdOf_at hn hr hy, hy]⟩
theorem target_tz {S : Addr → Bool} {xc : XC} {dims md : Int} {rs : List Row} {x : Str × Int} {eh : Eh} {q : KE} (hS : S = nw eh) (hn : (rs.map (·.w)).Nodup) (hx : x ∈ rdI rs) (k : q (.str (tgI rs x)) eh) : ([sysE dims md rs, nI x] ++ []).length = 2 ∧ FZ S fn_target_of xc ([sysE dims md rs, nI x] ++ []) eh q := by
  refine ⟨rfl, ?_⟩
  subst hS
  obtain ⟨r, hr, i, e, hy⟩ := rdI_of hn hx
  unfold tgI at k
  generalize rdOf rs x = y at hy k
  subst e
  unfold FZ fn_target_of ms_target_of nI
  walk_at "go"
  refine ⟨_, .dct (tabE rs), rfl, by rfl, ?_⟩
  walk_at "go"
  refine ixd_i (kvs := tabE rs) rfl rfl (getK_tab hn hr) ?_
  walk_at "go"
  refine ix_i (xs := [.int r.n, .tup (r.rs.map rdE)]) (z := .tup (r.rs.map rdE)) rfl (by rfl) ?_
  walk_at "go"
  refine ix_i (xs := r.rs.map rdE) rfl (at_cells hy) ?_
  walk_at "go"
  refine ix_i (xs := [.str y.t, .tup (y.v.map .int), .int y.f]) (z := .str y.t) rfl (by rfl) ?_
  exact fin_data (n := 0) .refl rfl k
theorem vector_tz {S : Addr → Bool} {xc : XC} {dims md : Int} {rs : List Row} {x : Str × Int} {eh : Eh} {q : KE} (hS : S = nw eh) (hn : (rs.map (·.w)).Nodup) (hx : x ∈ rdI rs) (k : q (.tup ((vcI rs x).map .int)) eh) : ([sysE dims md rs, nI x] ++ []).length = 2 ∧ FZ S fn_vector_of xc ([sysE dims md rs, nI x] ++ []) eh q := by
  refine ⟨rfl, ?_⟩
  subst hS
  obtain ⟨r, hr, i, e, hy⟩ := rdI_of hn hx
  unfold vcI at k
  generalize rdOf rs x = y at hy k
  subst e
  unfold FZ fn_vector_of ms_vector_of nI
  walk_at "go"
  refine ⟨_, .dct (tabE rs), rfl, by rfl, ?_⟩
  walk_at "go"
  refine ixd_i (kvs := tabE rs) rfl rfl (getK_tab hn hr) ?_
  walk_at "go"
  refine ix_i (xs := [.int r.n, .tup (r.rs.map rdE)]) (z := .tup (r.rs.map rdE)) rfl (by rfl) ?_
  walk_at "go"
  refine ix_i (xs := r.rs.map rdE) rfl (at_cells hy) ?_
  walk_at "go"
  refine ix_i (xs := [.str y.t, .tup (y.v.map .int), .int y.f]) (z := .tup (y.v.map .int)) rfl (by rfl) ?_
  exact fin_data (n := 1) .refl (okB_of (okD_tup fun _ _ => rfl)) k
theorem rdI_fit {dims md : Int} {rs : List Row} {x : Str × Int} (h : SysFit dims md rs) (hx : x ∈ rdI rs) : ((vcI rs x).length : Int) = dims ∧ tgI rs x ∈ rs.map (·.w) ∧ x.1 ∈ rs.map (·.w) := by
  obtain ⟨r, hr, i, rfl, hy⟩ := rdI_of h.nd hx
  have hm := List.mem_of_getElem? hy
  exact ⟨((h.r r hr).rd _ hm).l, h.tg r hr _ hm, List.mem_map.mpr ⟨r, hr, rfl⟩⟩
theorem rdI_len (rs : List Row) : (rdI rs).length = (rs.map fun r => r.rs.length).sum := by
  unfold rdI
  rw [List.length_flatMap]
  congr 1
  exact List.map_congr_left fun r _ => by simp

/-! ### dicts made by comprehension; names -/
theorem dcomp_s {mi : MI} {g : Tg} {tt : MT} {tk tv : ME} {vs : List Nat} {xc : XC} {es : Es} {eh : Eh} {q : KE} (h : mi xc es eh fun xs ok eh1 => ∀ p, eh1 p = none → dcL g tt tk tv vs ok p q xs es (eupd eh1 p (some (.dct [])))) : mDComp mi g tt tk tv vs xc es eh q := h
theorem dc_fold {α : Type} {g : Tg} {tk tv : ME} {vs : List Nat} {ok : Eh → Prop} {p : Addr} {q : KE} {es : Es} {eh0 : Eh} {c kf vf : α → EV} {ky : α → Key} (hk : ∀ a, keyE (kf a) = some (ky a)) (hok : ∀ o, ok (eupd eh0 p o)) : ∀ {L : List α} {kvs : List (Key × EV)},
    (∀ a ∈ L, ∃ es', asg g (c a) (wipeE es vs) = some es' ∧ ∀ (o : Option EO) (q1 : KE), (q1 (kf a) (eupd eh0 p o) → tk xF es' (eupd eh0 p o) q1) ∧ (q1 (vf a) (eupd eh0 p o) → tv xF es' (eupd eh0 p o) q1)) → kvs.length + L.length ≤ 5000 →
    q (.ref p) (eupd eh0 p (some (.dct (L.foldl (fun kvs a => putKE kvs (ky a) (vf a)) kvs)))) → dcL g tYesE tk tv vs ok p q (L.map c) es (eupd eh0 p (some (.dct kvs)))
  | [], kvs, _, _, k => ⟨hok _, k⟩
  | a :: L, kvs, hs, hl, k => by
    simp only [List.length_cons] at hl
    obtain ⟨es', e, st⟩ := hs a (by simp)
    refine ⟨hok _, es', e, tyes_i ?_⟩
    refine (st _ _).1 ((st _ _).2 ⟨kvs, ky a, eupd_same, hk a, szT (by omega), ?_⟩)
    rw [eupd_eupd]
    refine dc_fold hk hok (fun b hb => hs b (by simp [hb])) ?_ k
    have : (putKE kvs (ky a) (vf a)).length ≤ kvs.length + 1 := by
      unfold putKE; split
      · simp
      · simp
    omega
/-- a name more -/
def addN (ws : List Str) (w : Str) : List Str := if w ∈ ws then ws else ws ++ [w]
theorem mem_addN {ws : List Str} {w v : Str} : v ∈ addN ws w ↔ v ∈ ws ∨ v = w := by
  unfold addN
  split
  · rename_i h
    exact ⟨fun z => .inl z, fun z => z.elim id fun e => e ▸ h⟩
  · simp
theorem nd_addN {ws : List Str} {w : Str} (h : ws.Nodup) : (addN ws w).Nodup := by
  unfold addN
  split
  · exact h
  · rename_i hn
    refine List.nodup_append.mpr ⟨h, by simp, fun a ha b hb e => hn ?_⟩
    rw [List.mem_singleton.mp hb] at e
    exact e ▸ ha
theorem mem_foldN {α : Type} (f : α → Str) : ∀ (L : List α) (ws : List Str) (v : Str), v ∈ L.foldl (fun ws a => addN ws (f a)) ws ↔ v ∈ ws ∨ v ∈ L.map f
  | [], ws, v => by simp
  | a :: L, ws, v => by
    rw [List.foldl_cons, mem_foldN f L, mem_addN]
    simp only [List.map_cons, List.mem_cons]
    constructor
    · rintro ((h | h) | h)
      · exact .inl h
      · exact .inr (.inl h)
      · exact .inr (.inr h)
    · rintro (h | h | h)
      · exact .inl (.inl h)
      · exact .inl (.inr h)
      · exact .inr h
theorem nd_foldN {α : Type} (f : α → Str) : ∀ (L : List α) (ws : List Str), ws.Nodup → (L.foldl (fun ws a => addN ws (f a)) ws).Nodup
  | [], _, h => h
  | a :: L, ws, h => by rw [List.foldl_cons]; exact nd_foldN f L _ (nd_addN h)
/-- names in order -/
def Asc (ws : List Str) : Prop := ws.Pairwise fun a b => ¬ b.cps.toList < a.cps.toList
/-- the names that reads join, ascending -/
def nmsI (rs : List Row) (L : List (Str × Int)) : List Str := (rs.map (·.w)).filter fun w => decide (w ∈ L.map (·.1)) || decide (w ∈ L.map (tgI rs))
/-! ### rows_of -/
/-! ### Settling.__init__ -/
/-- the vectors of a system are small -/
def VecB (rs : List Row) (X : Nat) : Prop := ∀ x ∈ rdI rs, ∀ v ∈ vcI rs x, v.natAbs ≤ X
abbrev wsI (dims : Int) (rs : List Row) (L : List (Str × Int)) : List Int := stW dims.toNat (fun x : Str × Int => x.1) (tgI rs) (vcI rs) L (nmsI rs L)
/-- what is stuck -/
def stkI (dims : Int) (rs : List Row) (L : List (Str × Int)) : List (Str × Int) := ((L.zip (wsI dims rs L)).filter fun p => decide (0 < p.2)).map (·.1)
/-! ### the reads that hang together -/
/-- a piece: its tables, its reads -/
abbrev PcP := List Str × List (Str × Int)
def hitP (a b : Str) (P : PcP) : Bool := decide (a ∈ P.1) || decide (b ∈ P.1)
def mrgP (a b : Str) (x : Str × Int) (P : PcP) (Os : List PcP) : PcP := (Os.foldl (fun ns o => o.1.foldl addN ns) (addN (addN P.1 a) b), P.2 ++ [x] ++ Os.flatMap (·.2))
def jnP (a b : Str) (x : Str × Int) : List PcP → List PcP
  | [] => [(addN (addN [] a) b, [x])]
  | P :: Q => if hitP a b P then mrgP a b x P (Q.filter (hitP a b)) :: Q.filter (fun P => !hitP a b P) else P :: jnP a b x Q
def pcsP (tg : Str × Int → Str) (L : List (Str × Int)) : List PcP := L.foldl (fun Q x => jnP x.1 (tg x) x Q) []
/-- tables that reads join, in either direction -/
inductive Cn (tg : Str × Int → Str) (L : List (Str × Int)) : Str → Str → Prop
  | refl {w : Str} : Cn tg L w w
  | fwd {x : Str × Int} {w : Str} : x ∈ L → Cn tg L (tg x) w → Cn tg L x.1 w
  | bwd {x : Str × Int} {w : Str} : x ∈ L → Cn tg L x.1 w → Cn tg L (tg x) w
section
variable {tg : Str × Int → Str}
theorem Cn.mono {L L' : List (Str × Int)} (h : ∀ x ∈ L, x ∈ L') {a b : Str} (c : Cn tg L a b) : Cn tg L' a b := by
  induction c with
  | refl => exact .refl
  | fwd hx _ ih => exact .fwd (h _ hx) ih
  | bwd hx _ ih => exact .bwd (h _ hx) ih
theorem Cn.trans {L : List (Str × Int)} {a b c : Str} (h : Cn tg L a b) (k : Cn tg L b c) : Cn tg L a c := by
  induction h with
  | refl => exact k
  | fwd hx _ ih => exact .fwd hx (ih k)
  | bwd hx _ ih => exact .bwd hx (ih k)
theorem Cn.symm {L : List (Str × Int)} {a b : Str} (h : Cn tg L a b) : Cn tg L b a := by
  induction h with
  | refl => exact .refl
  | fwd hx _ ih => exact ih.trans (.bwd hx .refl)
  | bwd hx _ ih => exact ih.trans (.fwd hx .refl)
/-- one piece is right -/
structure POk (tg : Str × Int → Str) (P : PcP) : Prop where
  ne : P.2 ≠ []
  nd : P.1.Nodup
  mem : ∀ w, w ∈ P.1 ↔ ∃ x ∈ P.2, w = x.1 ∨ w = tg x
  cn : ∀ w ∈ P.1, ∀ w' ∈ P.1, Cn tg P.2 w w'
/-- the pieces of the reads so far -/
structure PsOk (tg : Str × Int → Str) (done : List (Str × Int)) (Q : List PcP) : Prop where
  ok : ∀ P ∈ Q, POk tg P
  pm : (Q.flatMap (·.2)).Perm done
  dj : Q.Pairwise fun P P' => ∀ w ∈ P.1, w ∉ P'.1
theorem POk.one {x : Str × Int} : POk tg (addN (addN [] x.1) (tg x), [x]) := by
  refine ⟨by simp, nd_addN (nd_addN List.nodup_nil), fun w => ?_, fun w hw w' hw' => ?_⟩
  · rw [mem_addN, mem_addN]; simp
  · have m : ∀ w, w ∈ addN (addN [] x.1) (tg x) → Cn tg [x] x.1 w := fun w hw => by
      rw [mem_addN, mem_addN] at hw
      rcases hw with (h | h) | h
      · cases h
      · subst h; exact .refl
      · subst h; exact .fwd (by simp) .refl
    exact (m w hw).symm.trans (m w' hw')
theorem mem_fold2 : ∀ (Os : List PcP) (ns : List Str) (w : Str), w ∈ Os.foldl (fun ns o => o.1.foldl addN ns) ns ↔ w ∈ ns ∨ ∃ o ∈ Os, w ∈ o.1
  | [], ns, w => by simp
  | o :: Os, ns, w => by
    rw [List.foldl_cons, mem_fold2 Os, mem_foldN (fun x => x) o.1 ns w, List.map_id']
    simp only [List.mem_cons, exists_eq_or_imp, or_assoc]
theorem nd_fold2 : ∀ (Os : List PcP) (ns : List Str), ns.Nodup → (Os.foldl (fun ns o => o.1.foldl addN ns) ns).Nodup
  | [], _, h => h
  | o :: Os, ns, h => by rw [List.foldl_cons]; exact nd_fold2 Os _ (nd_foldN (fun x => x) o.1 ns h)
theorem POk.mrg {x : Str × Int} {P : PcP} {Os : List PcP} (hP : POk tg P) (hO : ∀ o ∈ Os, POk tg o) (h : hitP x.1 (tg x) P = true) (ho : ∀ o ∈ Os, hitP x.1 (tg x) o = true) : POk tg (mrgP x.1 (tg x) x P Os) := by
  have hit : ∀ {P : PcP}, hitP x.1 (tg x) P = true → x.1 ∈ P.1 ∨ tg x ∈ P.1 := fun h => by simpa [hitP] using h
  have mem : ∀ w, w ∈ (mrgP x.1 (tg x) x P Os).1 ↔ ((w ∈ P.1 ∨ w = x.1) ∨ w = tg x) ∨ ∃ o ∈ Os, w ∈ o.1 := fun w => by
    show w ∈ Os.foldl (fun ns o => o.1.foldl addN ns) (addN (addN P.1 x.1) (tg x)) ↔ _
    rw [mem_fold2, mem_addN, mem_addN]
  have in2 : ∀ y, y ∈ (mrgP x.1 (tg x) x P Os).2 ↔ (y ∈ P.2 ∨ y = x) ∨ ∃ o ∈ Os, y ∈ o.2 := fun y => by
    show y ∈ P.2 ++ [x] ++ Os.flatMap (·.2) ↔ _
    simp [List.mem_flatMap, or_assoc]
  have xin : x ∈ (mrgP x.1 (tg x) x P Os).2 := (in2 x).mpr (.inl (.inr rfl))
  refine ⟨by show P.2 ++ [x] ++ Os.flatMap (·.2) ≠ []; simp, nd_fold2 _ _ (nd_addN (nd_addN hP.nd)), fun w => ?_, ?_⟩
  · rw [mem]
    constructor
    · rintro (((h | h) | h) | ⟨o, hoo, h⟩)
      · obtain ⟨y, hy, e⟩ := (hP.mem w).mp h
        exact ⟨y, (in2 y).mpr (.inl (.inl hy)), e⟩
      · exact ⟨x, xin, .inl h⟩
      · exact ⟨x, xin, .inr h⟩
      · obtain ⟨y, hy, e⟩ := ((hO o hoo).mem w).mp h
        exact ⟨y, (in2 y).mpr (.inr ⟨o, hoo, hy⟩), e⟩
    · rintro ⟨y, hy, e⟩
      rcases (in2 y).mp hy with (h | h) | ⟨o, hoo, h⟩
      · exact .inl (.inl (.inl ((hP.mem w).mpr ⟨y, h, e⟩)))
      · subst h
        rcases e with e | e
        · exact .inl (.inl (.inr e))
        · exact .inl (.inr e)
      · exact .inr ⟨o, hoo, ((hO o hoo).mem w).mpr ⟨y, h, e⟩⟩
  · -- all is joined with x's table
    have toX : ∀ {R : PcP}, POk tg R → hitP x.1 (tg x) R = true → (∀ y ∈ R.2, y ∈ (mrgP x.1 (tg x) x P Os).2) → ∀ w ∈ R.1, Cn tg (mrgP x.1 (tg x) x P Os).2 x.1 w := fun {R} hR hh hs w hw => by
      rcases hit hh with h | h
      · exact (hR.cn _ h w hw).mono hs
      · exact .fwd xin ((hR.cn _ h w hw).mono hs)
    have all : ∀ w ∈ (mrgP x.1 (tg x) x P Os).1, Cn tg (mrgP x.1 (tg x) x P Os).2 x.1 w := fun w hw => by
      rcases (mem w).mp hw with ((hw | hw) | hw) | ⟨o, hoo, hw⟩
      · exact toX hP h (fun y hy => (in2 y).mpr (.inl (.inl hy))) w hw
      · subst hw; exact .refl
      · subst hw; exact .fwd xin .refl
      · exact toX (hO o hoo) (ho o hoo) (fun y hy => (in2 y).mpr (.inr ⟨o, hoo, hy⟩)) w hw
    exact fun w hw w' hw' => (all w hw).symm.trans (all w' hw')
theorem filter_flat {Q : List PcP} (p : PcP → Bool) : ((Q.filter p).flatMap (·.2) ++ (Q.filter fun P => !p P).flatMap (·.2)).Perm (Q.flatMap (·.2)) := by
  rw [← List.flatMap_append]
  exact (List.filter_append_perm p Q).flatMap_right _
theorem PsOk.jn {x : Str × Int} : ∀ {done : List (Str × Int)} {Q : List PcP}, PsOk tg done Q → PsOk tg (done ++ [x]) (jnP x.1 (tg x) x Q) ∧ (∀ P ∈ jnP x.1 (tg x) x Q, ∀ w ∈ P.1, w = x.1 ∨ w = tg x ∨ ∃ P' ∈ Q, w ∈ P'.1)
  | done, [], h => by
    have e : done = [] := by have := h.pm; simpa using this.symm.eq_nil
    subst e
    refine ⟨⟨fun P hP => ?_, by simp [jnP], by simp [jnP]⟩, fun P hP w hw => ?_⟩
    · rw [List.mem_singleton.mp hP]; exact .one
    · rw [List.mem_singleton.mp hP, mem_addN, mem_addN] at hw
      rcases hw with (h | h) | h
      · cases h
      · exact .inl h
      · exact .inr (.inl h)
  | done, P :: Q, h => by
    have hP := h.ok P (by simp)
    have hQ : ∀ P ∈ Q, POk tg P := fun P hP => h.ok P (by simp [hP])
    have dj := List.pairwise_cons.mp h.dj
    unfold jnP
    by_cases hh : hitP x.1 (tg x) P = true
    · rw [if_pos hh]
      have memM : ∀ w, w ∈ (mrgP x.1 (tg x) x P (Q.filter (hitP x.1 (tg x)))).1 → w = x.1 ∨ w = tg x ∨ w ∈ P.1 ∨ ∃ o ∈ Q.filter (hitP x.1 (tg x)), w ∈ o.1 := fun w hw => by
        have : w ∈ (Q.filter (hitP x.1 (tg x))).foldl (fun ns o => o.1.foldl addN ns) (addN (addN P.1 x.1) (tg x)) := hw
        rw [mem_fold2, mem_addN, mem_addN] at this
        rcases this with ((h | h) | h) | h
        · exact .inr (.inr (.inl h))
        · exact .inl h
        · exact .inr (.inl h)
        · exact .inr (.inr (.inr h))
      refine ⟨⟨fun R hR => ?_, ?_, ?_⟩, fun R hR w hw => ?_⟩
      · rcases List.mem_cons.mp hR with rfl | hR
        · exact hP.mrg (fun o ho => hQ o (List.mem_filter.mp ho).1) hh fun o ho => (List.mem_filter.mp ho).2
        · exact hQ R (List.mem_filter.mp hR).1
      · rw [List.flatMap_cons]
        show ((P.2 ++ [x] ++ (Q.filter (hitP x.1 (tg x))).flatMap (·.2)) ++ _).Perm _
        have p1 := filter_flat (Q := Q) (hitP x.1 (tg x))
        have p2 := h.pm
        rw [List.flatMap_cons] at p2
        rw [List.append_assoc, List.append_assoc]
        refine ((p1.append_left [x]).append_left P.2).trans ?_
        refine List.Perm.trans ?_ (p2.append_right [x])
        rw [List.append_assoc]
        exact (List.perm_append_comm).append_left P.2
      · refine List.pairwise_cons.mpr ⟨fun R hR w hw => ?_, dj.2.filter _⟩
        obtain ⟨hRQ, hRn⟩ := List.mem_filter.mp hR
        have nh : x.1 ∉ R.1 ∧ tg x ∉ R.1 := by simpa [hitP] using hRn
        rcases memM w hw with h | h | h | ⟨o, ho, h⟩
        · rw [h]; exact nh.1
        · rw [h]; exact nh.2
        · exact dj.1 R hRQ w h
        · intro z
          -- o and R are different pieces
          obtain ⟨hoQ, hoh⟩ := List.mem_filter.mp ho
          have key : ∀ {Q : List PcP}, Q.Pairwise (fun P P' => ∀ w ∈ P.1, w ∉ P'.1) → o ∈ Q → R ∈ Q → o = R := fun {Q} => by
            induction Q with
            | nil => intro _ h; cases h
            | cons T Q ih =>
              intro pw h1 h2
              have pw := List.pairwise_cons.mp pw
              rcases List.mem_cons.mp h1 with e1 | h1
              · rcases List.mem_cons.mp h2 with e2 | h2
                · rw [e1, e2]
                · exact absurd z (pw.1 R h2 w (e1 ▸ h))
              · rcases List.mem_cons.mp h2 with e2 | h2
                · exact absurd h (pw.1 o h1 w (e2 ▸ z))
                · exact ih pw.2 h1 h2
          have e := key dj.2 hoQ hRQ
          subst e
          rw [hoh] at hRn
          cases hRn
      · rcases List.mem_cons.mp hR with rfl | hR
        · rcases memM w hw with h | h | h | ⟨o, ho, h⟩
          · exact .inl h
          · exact .inr (.inl h)
          · exact .inr (.inr ⟨P, by simp, h⟩)
          · exact .inr (.inr ⟨o, by simp [(List.mem_filter.mp ho).1], h⟩)
        · exact .inr (.inr ⟨R, by simp [(List.mem_filter.mp hR).1], hw⟩)
    · rw [if_neg hh]
      have nh : x.1 ∉ P.1 ∧ tg x ∉ P.1 := by simpa [hitP] using hh
      have hq : PsOk tg (Q.flatMap (·.2)) Q := ⟨hQ, .refl _, dj.2⟩
      obtain ⟨i1, i2⟩ := PsOk.jn (x := x) hq
      refine ⟨⟨fun R hR => ?_, ?_, ?_⟩, fun R hR w hw => ?_⟩
      · rcases List.mem_cons.mp hR with rfl | hR
        · exact hP
        · exact i1.ok R hR
      · rw [List.flatMap_cons]
        have p2 := h.pm
        rw [List.flatMap_cons] at p2
        refine (i1.pm.append_left P.2).trans ?_
        rw [← List.append_assoc]
        exact p2.append_right [x]
      · refine List.pairwise_cons.mpr ⟨fun R hR w hw z => ?_, i1.dj⟩
        rcases i2 R hR w z with h | h | ⟨P', hP', h⟩
        · exact nh.1 (h ▸ hw)
        · exact nh.2 (h ▸ hw)
        · exact dj.1 P' hP' w hw h
      · rcases List.mem_cons.mp hR with rfl | hR
        · exact .inr (.inr ⟨R, by simp, hw⟩)
        · rcases i2 R hR w hw with h | h | ⟨P', hP', h⟩
          · exact .inl h
          · exact .inr (.inl h)
          · exact .inr (.inr ⟨P', by simp [hP'], h⟩)
end

/-! ### pieces_of: its heap -/
structure Pc where
  d : Addr
  l : Addr
  p : PcP
def pcE (P : Pc) : EV := .tup [.ref P.d, .ref P.l]
structure PcH (eh0 : Eh) (f : Addr) (eh : Eh) (F : List Pc) : Prop where
  hd : ∀ P ∈ F, eh P.d = some (.dct (foundE P.p.1))
  hl : ∀ P ∈ F, eh P.l = some (.lst (P.p.2.map nI))
  n : ∀ P ∈ F, eh0 P.d = none ∧ eh0 P.l = none ∧ P.l ≠ f
  dd : (F.map (·.d)).Nodup
  ll : (F.map (·.l)).Nodup
  hf : eh f = some (.lst (F.map pcE))
  f0 : eh0 f = none
  kp : Kp eh0 eh
section
variable {eh0 eh : Eh} {f : Addr} {F A B : List Pc} {P : Pc}
/-- a new list of some of the pieces -/
theorem PcH.sub (h : PcH eh0 f eh F) {G : List Pc} (s : G.Sublist F) {f' : Addr} (hf' : eh f' = none) : PcH eh0 f' (eupd eh f' (some (.lst (G.map pcE)))) G := by
  have ne : ∀ a, eh a ≠ none → a ≠ f' := fun a ha z => ha (by rw [z]; exact hf')
  have g0 : eh0 f' = none := by
    cases e : eh0 f' with
    | none => rfl
    | some o => have := h.kp f' (by rw [e]; simp); rw [hf', e] at this; cases this
  exact ⟨fun P hP => by have := h.hd P (s.subset hP); rw [eupd_ne (ne _ (by rw [this]; simp))]; exact this, fun P hP => by have := h.hl P (s.subset hP); rw [eupd_ne (ne _ (by rw [this]; simp))]; exact this,
    fun P hP => ⟨(h.n P (s.subset hP)).1, (h.n P (s.subset hP)).2.1, ne _ (by rw [h.hl P (s.subset hP)]; simp)⟩, h.dd.sublist (s.map _), h.ll.sublist (s.map _), eupd_same, g0, h.kp.set g0⟩
/-- a piece more -/
theorem PcH.add (h : PcH eh0 f eh F) {d l : Addr} {ns : List Str} {L : List (Str × Int)} (hd : eh d = some (.dct (foundE ns))) (hl : eh l = some (.lst (L.map nI))) (d0 : eh0 d = none) (l0 : eh0 l = none) (nd : ∀ P ∈ F, P.d ≠ d) (nl : ∀ P ∈ F, P.l ≠ l) (lf : l ≠ f) :
    PcH eh0 f (eupd eh f (some (.lst ((F ++ [(⟨d, l, (ns, L)⟩ : Pc)]).map pcE)))) (F ++ [(⟨d, l, (ns, L)⟩ : Pc)]) := by
  have df : ∀ P ∈ F, P.d ≠ f := fun P hP z => by have := h.hd P hP; rw [z, h.hf] at this; cases this
  have df2 : d ≠ f := fun z => by rw [z, h.hf] at hd; cases hd
  refine ⟨fun P hP => ?_, fun P hP => ?_, fun P hP => ?_, ?_, ?_, eupd_same, h.f0, h.kp.set h.f0⟩
  · rcases List.mem_append.mp hP with hP | hP
    · rw [eupd_ne (df P hP)]; exact h.hd P hP
    · rw [List.mem_singleton.mp hP, eupd_ne df2]; exact hd
  · rcases List.mem_append.mp hP with hP | hP
    · rw [eupd_ne (h.n P hP).2.2]; exact h.hl P hP
    · rw [List.mem_singleton.mp hP, eupd_ne lf]; exact hl
  · rcases List.mem_append.mp hP with hP | hP
    · exact h.n P hP
    · rw [List.mem_singleton.mp hP]; exact ⟨d0, l0, lf⟩
  · rw [List.map_append]
    refine List.nodup_append.mpr ⟨h.dd, by simp, fun a ha b hb z => ?_⟩
    obtain ⟨P, hP, rfl⟩ := List.mem_map.mp ha
    simp at hb
    exact nd P hP (z.trans hb)
  · rw [List.map_append]
    refine List.nodup_append.mpr ⟨h.ll, by simp, fun a ha b hb z => ?_⟩
    obtain ⟨P, hP, rfl⟩ := List.mem_map.mp ha
    simp at hb
    exact nl P hP (z.trans hb)
end
/-! the pure turn over pieces with addresses -/
/-! comparing pieces -/
/-! ### pieces_of: its walk -/
theorem map_inj_nd {α β : Type} {k : α → β} : ∀ {l : List α}, (l.map k).Nodup → ∀ {x y}, x ∈ l → y ∈ l → k x = k y → x = y
  | z :: l, hn, x, y, hx, hy, e => by
    rw [List.map_cons, List.nodup_cons] at hn
    rcases List.mem_cons.mp hx with rfl | hx'
    · rcases List.mem_cons.mp hy with rfl | hy'
      · rfl
      · exact absurd (List.mem_map.mpr ⟨y, hy', e.symm⟩) hn.1
    · rcases List.mem_cons.mp hy with rfl | hy'
      · exact absurd (List.mem_map.mpr ⟨x, hx', e⟩) hn.1
      · exact map_inj_nd hn.2 hx' hy' e
/-! ### pieces_of, whole -/
def sortI (L : List (Str × Int)) : List (Str × Int) := L.mergeSort fun x y => PySem.W.dataLe false D (nI x) (nI y)
/-! ### levels -/
theorem fold_put {α : Type} {ky : α → Key} {vf : α → EV} : ∀ {L : List α} {kvs : List (Key × EV)}, (kvs.map (·.1) ++ L.map ky).Nodup → L.foldl (fun kvs a => putKE kvs (ky a) (vf a)) kvs = kvs ++ L.map fun a => (ky a, vf a)
  | [], kvs, _ => by simp
  | a :: L, kvs, h => by
    have hn : ky a ∉ kvs.map (·.1) := fun z => (List.nodup_append.mp h).2.2 _ z _ (by simp) rfl
    have e : putKE kvs (ky a) (vf a) = kvs ++ [(ky a, vf a)] := by
      unfold putKE
      rw [if_neg]
      simp only [List.any_eq_true, decide_eq_true_eq, not_exists, not_and]
      exact fun p hp e => hn (e ▸ List.mem_map.mpr ⟨p, hp, rfl⟩)
    rw [List.foldl_cons, e, fold_put (by simpa using h)]
    simp
theorem inr_nodup {ws : List Str} (h : ws.Nodup) : (ws.map (Sum.inr : Str → Key)).Nodup := by
  rw [List.nodup_iff_pairwise_ne, List.pairwise_map]
  exact (List.nodup_iff_pairwise_ne.mp h).imp fun h e => h (Sum.inr.inj e)
/-! the levels, round by round -/
def psI (rs : List Row) (L : List (Str × Int)) : List (List (Str × Int)) := (pcsP (tgI rs) L).map fun P => sortI P.2
/-! ### levels_in -/
theorem asc_sort (rows : List Row) : Asc ((sortR rows).map (·.w)) := by
  unfold Asc
  rw [List.pairwise_map]
  exact (sortR_pw rows).imp fun h => rowLe_lt h
theorem kp_none {eh0 eh : Eh} (kp : Kp eh0 eh) {a : Addr} (h : eh a = none) : eh0 a = none := by
  cases e : eh0 a with
  | none => rfl
  | some o => have := kp a (by rw [e]; simp); rw [h, e] at this; cases this
/-! ### levels_in, whole -/
/-! ### schedules judged -/
theorem allS_i {bs : List Bool} {x : EV} {eh : Eh} {q : KE} (h : lstE eh x = some (bs.map .bl)) (k : q (.bl (bs.all id)) eh) : bAll [x] eh q := ⟨_, bs, h, boolsE_map bs, k⟩
/-! ### is_level, is_schedule, and the doors -/
/-! ### what levels do -/
section
variable {dims md : Int} {rs : List Row} {X : Nat}
end

/-! ### stuck_reads, count_levels -/
def stkAll (dims : Int) (rs : List Row) : List (Str × Int) := sortI ((psI rs (rdI rs)).flatMap (stkI dims rs))
/-! ### rounds: a walk that uses each edge once -/
section
variable {α β : Type} [DecidableEq β] {src tg : α → β}
def isPath (src tg : α → β) : β → List α → β → Prop
  | a, [], b => a = b
  | a, x :: l, b => src x = a ∧ isPath src tg (tg x) l b
def co (src : α → β) (v : β) (l : List α) : Nat := l.countP fun x => decide (src x = v)
theorem co_cons (v : β) (x : α) (l : List α) : co src v (x :: l) = co src v l + if src x = v then 1 else 0 := by
  unfold co; rw [List.countP_cons]; simp
theorem co_app (v : β) (a b : List α) : co src v (a ++ b) = co src v a + co src v b := List.countP_append
theorem co_perm {a b : List α} (h : a.Perm b) (v : β) : co src v a = co src v b := h.countP_eq _
theorem path_cnt : ∀ {l : List α} {a b : β}, isPath src tg a l b → ∀ v, co src v l + (if b = v then 1 else 0) = co tg v l + if a = v then 1 else 0
  | [], a, b, h, v => by
    have h : a = b := h
    subst h; simp [co]
  | x :: l, a, b, ⟨h1, h2⟩, v => by
    have := path_cnt h2 v
    rw [co_cons, co_cons]
    subst h1
    omega
theorem path_snoc {x : α} : ∀ {l : List α} {a b : β}, isPath src tg a (l ++ [x]) b ↔ isPath src tg a l (src x) ∧ tg x = b
  | [], a, b => by
    show src x = a ∧ tg x = b ↔ a = src x ∧ tg x = b
    exact ⟨fun h => ⟨h.1.symm, h.2⟩, fun h => ⟨h.1.symm, h.2⟩⟩
  | y :: l, a, b => by
    show src y = a ∧ isPath src tg (tg y) (l ++ [x]) b ↔ (src y = a ∧ isPath src tg (tg y) l (src x)) ∧ tg x = b
    rw [path_snoc]
    exact ⟨fun h => ⟨⟨h.1, h.2.1⟩, h.2.2⟩, fun h => ⟨h.1.1, h.1.2, h.2⟩⟩
/-- the walk under way: what is left, the way, what is found -/
structure Eul (src tg : α → β) (E : List α) (s : β) (ks : List β) (lf : β → List α) (way fnd : List α) (h c : β) : Prop where
  pm : (ks.flatMap lf ++ way ++ fnd).Perm E
  nd : ks.Nodup
  ls : ∀ b ∈ ks, ∀ x ∈ lf b, src x = b
  hk : h ∈ ks
  kt : ∀ x ∈ E, src x ∈ ks ∧ tg x ∈ ks
  pw : isPath src tg s way h
  pf : isPath src tg c fnd.reverse s
  fe : ∀ x ∈ fnd, lf (tg x) = []
  cs : fnd = [] → c = s
section
variable {E way fnd : List α} {s h c : β} {ks : List β} {lf : β → List α}
theorem co_flat0 (ls : ∀ b ∈ ks, ∀ x ∈ lf b, src x = b) (h0 : lf h = []) : co src h (ks.flatMap lf) = 0 := by
  unfold co
  rw [List.countP_eq_zero]
  intro x hx
  obtain ⟨b, hb, hx⟩ := List.mem_flatMap.mp hx
  have := ls b hb x hx
  rw [decide_eq_true_eq]
  intro e
  rw [← this, e, h0] at hx
  cases hx
theorem Eul.stuck (e : Eul src tg E s ks lf way fnd h c) (bal : ∀ v, co src v E = co tg v E) (h0 : lf h = []) : h = c := by
  have b := bal h
  rw [← co_perm e.pm, ← co_perm e.pm, co_app, co_app, co_app, co_app, co_flat0 e.ls h0] at b
  have p1 := path_cnt e.pw h
  have p2 := path_cnt e.pf h
  have r : ∀ (f : α → β) (l : List α), co f h l.reverse = co f h l := fun f l => co_perm (List.reverse_perm l) h
  rw [r, r] at p2
  rw [if_pos rfl] at p1
  refine Classical.byContradiction fun z => ?_
  have e1 : (if c = h then 1 else 0 : Nat) = 0 := if_neg fun z' => z z'.symm
  rw [e1] at p2
  omega
theorem flat_upd {b : β} {l : List α} {x : α} : ∀ {ks : List β}, ks.Nodup → b ∈ ks → lf b = l ++ [x] → (ks.flatMap (fun v => if v = b then l else lf v) ++ [x]).Perm (ks.flatMap lf)
  | v :: ks, hn, hb, hl => by
    rw [List.nodup_cons] at hn
    rw [List.flatMap_cons, List.flatMap_cons]
    rcases List.mem_cons.mp hb with e | hb'
    · subst e
      rw [if_pos rfl, hl]
      have : ks.flatMap (fun v => if v = b then l else lf v) = ks.flatMap lf := by
        have : ∀ ks : List β, b ∉ ks → ks.flatMap (fun v => if v = b then l else lf v) = ks.flatMap lf := fun ks => by
          induction ks with
          | nil => intro _; rfl
          | cons w ks ih =>
            intro h
            rw [List.mem_cons, not_or] at h
            rw [List.flatMap_cons, List.flatMap_cons, ih h.2, if_neg (Ne.symm h.1)]
        exact this ks hn.1
      rw [this, List.append_assoc, List.append_assoc]
      exact (List.perm_append_comm).append_left l
    · have : v ≠ b := fun e => hn.1 (e ▸ hb')
      rw [if_neg this, List.append_assoc]
      exact (flat_upd hn.2 hb' hl).append_left _
theorem Eul.push (e : Eul src tg E s ks lf way fnd h c) {l : List α} {x : α} (hl : lf h = l ++ [x]) : Eul src tg E s ks (fun v => if v = h then l else lf v) (way ++ [x]) fnd (tg x) c := by
  have hx : src x = h := e.ls h e.hk x (by rw [hl]; simp)
  have p := flat_upd e.nd e.hk hl
  have xE : x ∈ E := e.pm.mem_iff.mp (by
    have : x ∈ ks.flatMap lf := List.mem_flatMap.mpr ⟨h, e.hk, by rw [hl]; simp⟩
    simp [this])
  refine ⟨?_, e.nd, fun b hb y hy => ?_, (e.kt x xE).2, e.kt, path_snoc.mpr ⟨by rw [hx]; exact e.pw, rfl⟩, e.pf, fun y hy => ?_, e.cs⟩
  · refine List.Perm.trans ?_ e.pm
    refine List.Perm.append_right fnd ?_
    refine List.Perm.trans ?_ (p.append_right way)
    rw [List.append_assoc]
    exact (List.perm_append_comm).append_left _
  · split at hy
    · rename_i hb'; subst hb'; exact e.ls b hb y (by rw [hl]; simp [hy])
    · exact e.ls b hb y hy
  · have := e.fe y hy
    show (if tg y = h then l else lf (tg y)) = []
    split
    · rename_i z; rw [z, hl] at this; simp at this
    · exact this
theorem Eul.pop (e : Eul src tg E s ks lf (way ++ [x]) fnd h c) (bal : ∀ v, co src v E = co tg v E) (h0 : lf h = []) : Eul src tg E s ks lf way (fnd ++ [x]) (src x) (src x) := by
  have hc := e.stuck bal h0
  obtain ⟨p1, p2⟩ := path_snoc.mp e.pw
  refine ⟨?_, e.nd, e.ls, ?_, e.kt, p1, ?_, fun y hy => ?_, fun z => by simp at z⟩
  · refine List.Perm.trans ?_ e.pm
    rw [List.append_assoc, List.append_assoc, List.append_assoc]
    refine List.Perm.append_left _ (List.Perm.append_left _ ?_)
    exact List.perm_append_comm
  · exact (e.kt x (e.pm.mem_iff.mp (by simp))).1
  · rw [List.reverse_append]
    show src x = src x ∧ isPath src tg (tg x) fnd.reverse s
    exact ⟨rfl, by rw [p2, hc]; exact e.pf⟩
  · rcases List.mem_append.mp hy with hy | hy
    · exact e.fe y hy
    · rw [List.mem_singleton.mp hy, p2]; exact h0
theorem cnt_sum (f : α → β) (E : List α) : ∀ ws : List β, ws.Nodup → E.countP (fun x => decide (f x ∈ ws)) = (ws.map fun v => co f v E).sum
  | [], _ => by simp
  | w :: ws, hn => by
    rw [List.nodup_cons] at hn
    rw [List.map_cons, List.sum_cons, ← cnt_sum f E ws hn.2]
    unfold co
    induction E with
    | nil => rfl
    | cons x E ih =>
      rw [List.countP_cons, List.countP_cons, List.countP_cons, ih]
      by_cases h1 : f x = w
      · have h2 : f x ∉ ws := fun z => hn.1 (h1 ▸ z)
        simp [h1, hn.1]; omega
      · simp [h1]; omega
theorem cnt_back {p q : α → Bool} : ∀ {l : List α}, (∀ x ∈ l, p x = true → q x = true) → l.countP p = l.countP q → ∀ x ∈ l, q x = true → p x = true
  | x :: l, h, e, y, hy, hq => by
    have le : l.countP p ≤ l.countP q := List.countP_mono_left fun z hz => h z (by simp [hz])
    have h1 := h x (by simp)
    rw [List.countP_cons, List.countP_cons] at e
    by_cases hp : p x = true
    · rw [if_pos hp, if_pos (h1 hp)] at e
      rcases List.mem_cons.mp hy with rfl | hy
      · exact hp
      · exact cnt_back (fun z hz => h z (by simp [hz])) (by omega) y hy hq
    · rw [if_neg hp] at e
      by_cases hqx : q x = true
      · rw [if_pos hqx] at e; omega
      · rw [if_neg hqx] at e
        rcases List.mem_cons.mp hy with rfl | hy
        · exact absurd hq hqx
        · exact cnt_back (fun z hz => h z (by simp [hz])) (by omega) y hy hq
/-- what nothing leaves, nothing enters -/
theorem closed_back {ws : List β} (hn : ws.Nodup) (bal : ∀ v, co src v E = co tg v E) (h : ∀ x ∈ E, src x ∈ ws → tg x ∈ ws) : ∀ x ∈ E, tg x ∈ ws → src x ∈ ws := by
  have e : E.countP (fun x => decide (src x ∈ ws)) = E.countP fun x => decide (tg x ∈ ws) := by
    rw [cnt_sum src E ws hn, cnt_sum tg E ws hn]
    congr 1
    exact List.map_congr_left fun v _ => bal v
  intro x hx hq
  have := cnt_back (p := fun x => decide (src x ∈ ws)) (q := fun x => decide (tg x ∈ ws)) (fun y hy z => by simpa using h y hy (by simpa using z)) e x hx (by simpa using hq)
  simpa using this
/-- edges join all tables -/
inductive Jn (src tg : α → β) (E : List α) : β → β → Prop
  | refl {w : β} : Jn src tg E w w
  | fwd {x : α} {w : β} : x ∈ E → Jn src tg E (tg x) w → Jn src tg E (src x) w
  | bwd {x : α} {w : β} : x ∈ E → Jn src tg E (src x) w → Jn src tg E (tg x) w
/-- at the end all edges are used -/
theorem Eul.done (e : Eul src tg E s ks lf [] fnd h c) (bal : ∀ v, co src v E = co tg v E) (h0 : lf h = []) (hE : E ≠ []) (hs : ∃ x ∈ E, src x = s) (jn : ∀ x ∈ E, Jn src tg E s (src x)) : fnd.Perm E ∧ isPath src tg s fnd.reverse s := by
  have hc := e.stuck bal h0
  have sh : s = h := e.pw
  subst sh
  have pf := e.pf
  rw [← hc] at pf
  -- the tables of which nothing is left
  have fwd : ∀ x ∈ E, src x ∈ ks.filter (fun v => (lf v).isEmpty) → tg x ∈ ks.filter fun v => (lf v).isEmpty := fun x hx hv => by
    obtain ⟨_, h2⟩ := List.mem_filter.mp hv
    have hl : lf (src x) = [] := by simpa using h2
    have hx' := e.pm.mem_iff.mpr hx
    rw [List.append_nil] at hx'
    rcases List.mem_append.mp hx' with hx' | hx'
    · obtain ⟨b, hb, hxb⟩ := List.mem_flatMap.mp hx'
      have := e.ls b hb x hxb
      rw [← this, hl] at hxb
      cases hxb
    · exact List.mem_filter.mpr ⟨(e.kt x hx).2, by rw [e.fe x hx']; rfl⟩
  have bwd := closed_back (e.nd.filter _) bal fwd
  have all : ∀ {a b : β}, Jn src tg E a b → a ∈ ks.filter (fun v => (lf v).isEmpty) → b ∈ ks.filter fun v => (lf v).isEmpty := fun {a b} j => by
    induction j with
    | refl => exact id
    | fwd hx _ ih => exact fun z => ih (fwd _ hx z)
    | bwd hx _ ih => exact fun z => ih (bwd _ hx z)
  have s0 : s ∈ ks.filter fun v => (lf v).isEmpty := List.mem_filter.mpr ⟨e.hk, by rw [h0]; rfl⟩
  have nil : ks.flatMap lf = [] := by
    rw [List.flatMap_eq_nil_iff]
    intro b hb
    cases el : lf b with
    | nil => rfl
    | cons x l =>
      have hxb : x ∈ lf b := by rw [el]; simp
      have xE : x ∈ E := e.pm.mem_iff.mp (by
        have : x ∈ ks.flatMap lf := List.mem_flatMap.mpr ⟨b, hb, hxb⟩
        simp [this])
      have := all (jn x xE) s0
      rw [e.ls b hb x hxb] at this
      have := (List.mem_filter.mp this).2
      rw [el] at this
      cases this
  have pm := e.pm
  rw [nil] at pm
  exact ⟨by simpa using pm, pf⟩
end
end

/-! ### round_of: what is left, by tables -/
/-! its heap -/
structure LfH (eh0 : Eh) (d : Addr) (eh : Eh) (G : List (Str × Addr)) (lf : Str → List (Str × Int)) : Prop where
  hd : eh d = some (.dct (G.map fun g => (.inr g.1, .ref g.2)))
  hl : ∀ g ∈ G, eh g.2 = some (.lst ((lf g.1).map nI))
  n0 : ∀ g ∈ G, eh0 g.2 = none
  d0 : eh0 d = none
  nk : (G.map (·.1)).Nodup
  na : (G.map (·.2)).Nodup
  kp : Kp eh0 eh
section
variable {eh0 eh : Eh} {d : Addr} {G : List (Str × Addr)} {lf : Str → List (Str × Int)}
theorem LfH.fresh (H : LfH eh0 d eh G lf) {a : Addr} (h : eh a = none) : a ≠ d ∧ (∀ g ∈ G, g.2 ≠ a) ∧ eh0 a = none :=
  ⟨(fun z => by rw [z, H.hd] at h; cases h), (fun g hg z => by have := H.hl g hg; rw [z, h] at this; cases this), kp_none H.kp h⟩
theorem LfH.set (H : LfH eh0 d eh G lf) {g : Str × Addr} (hg : g ∈ G) (l : List (Str × Int)) : LfH eh0 d (eupd eh g.2 (some (.lst (l.map nI)))) G (fun b => if b = g.1 then l else lf b) := by
  have gd : d ≠ g.2 := fun z => by have := H.hd; rw [z, H.hl g hg] at this; cases this
  refine ⟨by rw [eupd_ne gd]; exact H.hd, fun u hu => ?_, H.n0, H.d0, H.nk, H.na, H.kp.set (H.n0 g hg)⟩
  by_cases h : u.1 = g.1
  · have : u = g := map_inj_nd H.nk hu hg h
    subst this
    rw [eupd_same, if_pos rfl]
  · rw [if_neg h, eupd_ne fun z => h (by rw [map_inj_nd H.na hu hg z])]
    exact H.hl u hu
theorem LfH.congr (H : LfH eh0 d eh G lf) {lf' : Str → List (Str × Int)} (h : ∀ b, lf b = lf' b) : LfH eh0 d eh G lf' := by
  have : lf = lf' := funext h
  rw [← this]; exact H
theorem LfH.add (H : LfH eh0 d eh G lf) {b : Str} {a : Addr} (hb : b ∉ G.map (·.1)) (ha : eh a = some (.lst [])) (hg : ∀ g ∈ G, g.2 ≠ a) (had : a ≠ d) (h0 : eh0 a = none) (hlf : lf b = []) :
    LfH eh0 d (eupd eh d (some (.dct ((G ++ [(b, a)]).map fun g => (.inr g.1, .ref g.2))))) (G ++ [(b, a)]) lf := by
  have gd : ∀ g ∈ G, g.2 ≠ d := fun g hg z => by have := H.hl g hg; rw [z, H.hd] at this; cases this
  refine ⟨eupd_same, fun u hu => ?_, fun u hu => ?_, H.d0, ?_, ?_, H.kp.set H.d0⟩
  · rcases List.mem_append.mp hu with hu | hu
    · rw [eupd_ne (gd u hu)]; exact H.hl u hu
    · rw [List.mem_singleton.mp hu, eupd_ne had, ha]; rw [show lf (b, a).1 = [] from hlf]; rfl
  · rcases List.mem_append.mp hu with hu | hu
    · exact H.n0 u hu
    · rw [List.mem_singleton.mp hu]; exact h0
  · rw [List.map_append]
    refine List.nodup_append.mpr ⟨H.nk, by simp, fun x hx y hy z => hb ?_⟩
    simp at hy
    rw [← hy, ← z]; exact hx
  · rw [List.map_append]
    refine List.nodup_append.mpr ⟨H.na, by simp, fun x hx y hy z => ?_⟩
    obtain ⟨g, hg', rfl⟩ := List.mem_map.mp hx
    simp at hy
    exact hg g hg' (z.trans hy)
end
/-! ### round_of: the walk -/
section
variable {eh0 eh : Eh} {d w f : Addr} {G : List (Str × Addr)} {lf : Str → List (Str × Int)} {ws : List EV} {fnd : List (Str × Int)}
end
/-! ### round_of, whole -/
/-! ### divisor_of; the walk of a piece that is stuck -/
/-- a walk that blocks -/
structure WalkOk (dims : Int) (rs : List Row) (W : List (Str × Int)) : Prop where
  ne : W ≠ []
  rd : ∀ x ∈ W, x ∈ rdI rs
  cl : ∃ s, isPath (fun x : Str × Int => x.1) (tgI rs) s W s
  sm : ∀ a < dims.toNat, (W.map fun x => (vcI rs x).getD a 0).sum ≤ 0
  st : ∀ x ∈ W, x ∈ stkAll dims rs
  ln : W.length ≤ 15000000
  lb : ∀ Y N, VecB rs Y → 1 ≤ Y → Y ≤ 1000 → rs.length ≤ N → W.length ≤ 12 * (((3 + N + 1) * Y) ^ 3 * (3 + N + 1))
/-! ### walk_in -/
/-! ### walk_in, closed_walk -/
/-! ### long comprehensions -/
section
variable {g : Tg} {te : ME} {tt : MT} {vs : List Nat} {ok : Eh → Prop} {α : Type} {es : Es} {eh : Eh} {q : KE}
theorem compB_map {c f : α → EV} : ∀ {L : List α} {acc : List EV}, ok eh → acc.length + L.length ≤ sizeLine → (∀ a ∈ L, ∃ es', asg g (c a) (wipeE es vs) = some es' ∧ ∀ q' : KE, q' (f a) eh → te xF es' eh q') → q (.lst (acc ++ L.map f)) eh →
    compL g tYesE te vs ok q (L.map c) acc es eh
  | [], acc, ho, _, _, k => ⟨ho, by simpa using k⟩
  | a :: L, acc, ho, hl, h, k => by
    simp only [List.length_cons] at hl
    obtain ⟨es', e, b⟩ := h a (by simp)
    exact ⟨ho, es', e, b _ ⟨by omega, compB_map ho (by simp; omega) (fun x hx => h x (by simp [hx])) (by simpa using k)⟩⟩
theorem compB_filter {c f : α → EV} {p : α → Bool} : ∀ {L : List α} {acc : List EV}, ok eh → acc.length + L.length ≤ sizeLine →
    (∀ a ∈ L, ∃ es', asg g (c a) (wipeE es vs) = some es' ∧ (∀ qt : Bool → Eh → Prop, qt (p a) eh → tt xF es' eh qt) ∧ (p a = true → ∀ q' : KE, q' (f a) eh → te xF es' eh q')) → q (.lst (acc ++ (L.filter p).map f)) eh →
    compL g tt te vs ok q (L.map c) acc es eh
  | [], acc, ho, _, _, k => ⟨ho, by simpa using k⟩
  | a :: L, acc, ho, hl, h, k => by
    simp only [List.length_cons] at hl
    obtain ⟨es', e, b, b'⟩ := h a (by simp)
    refine ⟨ho, es', e, b _ ?_⟩
    cases hp : p a with
    | true => exact b' hp _ ⟨by omega, compB_filter ho (by simp; omega) (fun x hx => h x (by simp [hx])) (by simpa [hp] using k)⟩
    | false => exact compB_filter ho (by omega) (fun x hx => h x (by simp [hx])) (by simpa [hp] using k)
end

/-! ### is_closed, sum_of, blocks, walk_sum -/
def clB (rs : List Row) (W : List (Str × Int)) : Bool := (!decide (W = [])) && (W.all fun x => decide (x ∈ rdI rs)) && (W.zip (W.drop 1 ++ W.take 1)).all fun p => decide (tgI rs p.1 = p.2.1)
/-- the sum of the vectors of reads -/
def sumV (d : Nat) (rs : List Row) (W : List (Str × Int)) : List Int := (List.range d).map fun a => (W.map fun x => (vcI rs x).getD a 0).sum
/-- the greatest of ints, 0 of none -/
def mxI : List Int → Int
  | [] => 0
  | n :: r => mostI n r
theorem most_le : ∀ (r : List Int) (n m : Int), mostI n r ≤ m ↔ n ≤ m ∧ ∀ y ∈ r, y ≤ m
  | [], n, m => by
    show n ≤ m ↔ _
    simp
  | a :: r, n, m => by
    show mostI (if n < a then a else n) r ≤ m ↔ _
    rw [most_le r]
    constructor
    · intro ⟨h1, h2⟩
      refine ⟨by split at h1 <;> omega, fun y hy => ?_⟩
      rcases List.mem_cons.mp hy with rfl | hy
      · split at h1 <;> omega
      · exact h2 y hy
    · intro ⟨h1, h2⟩
      refine ⟨?_, fun y hy => h2 y (by simp [hy])⟩
      have := h2 a (by simp)
      split <;> omega
theorem mx_le {ns : List Int} {m : Int} (h : ns ≠ []) : mxI ns ≤ m ↔ ∀ y ∈ ns, y ≤ m := by
  cases ns with
  | nil => exact absurd rfl h
  | cons n r =>
    show mostI n r ≤ m ↔ _
    rw [most_le]
    simp
/-- a path that comes round is a closed walk -/
theorem path_zip {rs : List Row} : ∀ {l : List (Str × Int)} {x z : Str × Int} {b : Str}, isPath (fun x : Str × Int => x.1) (tgI rs) x.1 (x :: l) b → z.1 = b → ∀ p ∈ (x :: l).zip (l ++ [z]), tgI rs p.1 = p.2.1
  | [], x, z, b, h, hz, p, hp => by
    have : p = (x, z) := by simpa using hp
    rw [this]
    have h2 : tgI rs x = b := h.2
    exact h2.trans hz.symm
  | y :: l, x, z, b, h, hz, p, hp => by
    have h1 : y.1 = tgI rs x := h.2.1
    rw [List.cons_append, List.zip_cons_cons] at hp
    rcases List.mem_cons.mp hp with rfl | hp
    · exact h1.symm
    · exact path_zip (x := y) (l := l) ⟨rfl, h.2.2⟩ hz p hp
theorem WalkOk.clB {dims : Int} {rs : List Row} {W : List (Str × Int)} (h : WalkOk dims rs W) : clB rs W = true := by
  obtain ⟨x, l, e⟩ := List.exists_cons_of_ne_nil h.ne
  obtain ⟨s, hs⟩ := h.cl
  unfold LW.clB
  rw [Bool.and_eq_true, Bool.and_eq_true, List.all_eq_true, List.all_eq_true]
  refine ⟨⟨by rw [decide_eq_false h.ne]; rfl, fun y hy => decide_eq_true (h.rd y hy)⟩, fun p hp => decide_eq_true ?_⟩
  rw [e] at hp hs
  have h1 : x.1 = s := hs.1
  subst h1
  exact path_zip hs rfl p (by simpa using hp)
theorem WalkOk.mx {dims md : Int} {rs : List Row} {W : List (Str × Int)} (h : WalkOk dims rs W) (f : SysFit dims md rs) : mxI (sumV dims.toNat rs W) ≤ 0 := by
  have hd := f.d
  refine (mx_le fun z => ?_).mpr fun y hy => ?_
  · have := congrArg List.length z
    unfold sumV at this
    simp at this
    omega
  · obtain ⟨a, ha, rfl⟩ := List.mem_map.mp hy
    exact h.sm a (List.mem_range.mp ha)

/-! ### tables sorted as data -/
/-! ### the reads as rows -/
def knE (z : (Str × Int) × Rd) : EV := .tup [.str z.1.1, .int z.1.2, .str z.2.t, .tup (z.2.v.map .int)]
def rdT1 (r : Row) : List ((Str × Int) × Rd) := r.rs.mapIdx fun i x => ((r.w, (i : Int)), x)
def rdT (rs : List Row) : List ((Str × Int) × Rd) := rs.flatMap rdT1
theorem rdT_fst (rs : List Row) : (rdT rs).map (·.1) = rdI rs := by
  unfold rdT rdI
  rw [List.map_flatMap]
  congr 1
  funext r
  unfold rdT1
  refine List.ext_getElem? fun i => ?_
  simp only [List.getElem?_map, List.getElem?_mapIdx, List.getElem?_range']
  by_cases hi : i < r.rs.length
  · rw [List.getElem?_eq_getElem hi, List.getElem?_eq_getElem (by simpa using hi)]; simp
  · rw [List.getElem?_eq_none (by omega), List.getElem?_eq_none (by simpa using hi)]; rfl
theorem rdT_len {rs : List Row} (h : (rs.map fun r => r.rs.length).sum ≤ 12) : (rdT rs).length ≤ 12 := by
  unfold rdT
  rw [List.length_flatMap]
  have : rs.map (fun r => (rdT1 r).length) = rs.map fun r => r.rs.length := List.map_congr_left fun r _ => by simp [rdT1]
  rw [this]; exact h
theorem okD_kn (z : (Str × Int) × Rd) : okD 2 (knE z) = true := by
  show [EV.str z.1.1, .int z.1.2, .str z.2.t, .tup (z.2.v.map .int)].all (okD 1) = true
  simp only [List.all_cons, List.all_nil, Bool.and_true, okD_ints, okD_str, Bool.true_and]; rfl
theorem rdT_at {rs : List Row} {z : (Str × Int) × Rd} (hn : (rs.map (·.w)).Nodup) (hz : z ∈ rdT rs) : z.1 ∈ rdI rs ∧ rdOf rs z.1 = z.2 := by
  refine ⟨by rw [← rdT_fst]; exact List.mem_map.mpr ⟨z, hz, rfl⟩, ?_⟩
  obtain ⟨r, hr, hz⟩ := List.mem_flatMap.mp hz
  unfold rdT1 at hz
  obtain ⟨i, hi, e⟩ := List.mem_mapIdx.mp hz
  rw [← e]
  exact rdOf_at hn hr (List.getElem?_eq_getElem hi)

/-! ### k54: named reads, closed walks, rounds -/
theorem SysFit.md {dims md md' : Int} {rows : List Row} (h : SysFit dims md rows) (h2 : 2 ≤ md') : SysFit dims md' rows := ⟨h.d, h.l, h.nd, h.r, h.t, h2, h.tg⟩
section
variable {dims : Int} {mm : Nat} {rows : List Row}
end

/-! ### simple rounds, found table by table (no program) -/
abbrev Zr := (Str × Int) × Rd
def zS (z : Zr) : Str := z.1.1
def zT (z : Zr) : Str := z.2.t
/-- a way of rows from a table, on through greater ones, each once -/
structure PtZ (Z : List Zr) (t : Str) (p : List Zr) : Prop where
  ne : p ≠ []
  mem : ∀ z ∈ p, z ∈ Z
  hd : ∀ z, p.head? = some z → zS z = t
  ch : ∀ (i : Nat) x y, p[i]? = some x → p[i + 1]? = some y → zT x = zS y
  gt : ∀ z ∈ p.drop 1, t.cps.toList < (zS z).cps.toList
  nd : (p.map zS).Nodup
structure RdZ (Z : List Zr) (t : Str) (p : List Zr) : Prop extends PtZ Z t p where
  cl : ∀ z, p.getLast? = some z → zT z = t
theorem PtZ.one {Z : List Zr} {z : Zr} (h : z ∈ Z) : PtZ Z (zS z) [z] := ⟨by simp, by simpa using h, by simp, fun i x y _ hy => by simp at hy, by simp, by simp⟩
theorem PtZ.snoc {Z : List Zr} {t : Str} {p : List Zr} {x z : Zr} (h : PtZ Z t p) (hx : p.getLast? = some x) (hz : z ∈ Z) (e : zS z = zT x) (g : t.cps.toList < (zS z).cps.toList) (n : zS z ∉ p.map zS) : PtZ Z t (p ++ [z]) where
  ne := by simp
  mem := fun y hy => by
    rcases List.mem_append.mp hy with hy | hy
    · exact h.mem y hy
    · rw [List.mem_singleton.mp hy]; exact hz
  hd := fun y hy => h.hd y (by
    cases p with
    | nil => exact absurd rfl h.ne
    | cons a p => exact hy)
  ch := fun i a b ha hb => by
    rcases Nat.lt_or_ge (i + 1) p.length with hi | hi
    · rw [List.getElem?_append_left (by omega)] at ha
      rw [List.getElem?_append_left hi] at hb
      exact h.ch i a b ha hb
    · have hl := (List.getElem?_eq_some_iff.mp hb).1
      simp only [List.length_append, List.length_cons, List.length_nil] at hl
      have e1 : i + 1 = p.length := by omega
      rw [List.getElem?_append_left (by omega)] at ha
      rw [e1, List.getElem?_append_right (Nat.le_refl _)] at hb
      simp at hb
      subst hb
      rw [List.getLast?_eq_getElem?, show p.length - 1 = i by omega, ha] at hx
      rw [Option.some.inj hx, e]
  gt := fun y hy => by
    rw [List.drop_append_of_le_length (List.length_pos_iff.mpr h.ne)] at hy
    rcases List.mem_append.mp hy with hy | hy
    · exact h.gt y hy
    · rw [List.mem_singleton.mp hy]; exact g
  nd := by
    rw [List.map_append]
    refine List.nodup_append.mpr ⟨h.nd, by simp, fun a ha b hb z => n ?_⟩
    simp at hb
    rw [← hb, ← z]; exact ha
theorem lt_irr {a : List Nat} : ¬ a < a := List.lt_irrefl a
/-- a round that begins so: it ends there, or goes on -/
theorem RdZ.pre {Z : List Zr} {t : Str} {p r : List Zr} {x : Zr} (R : RdZ Z t r) (h : p <+: r) (hx : p.getLast? = some x) :
    (zT x = t ∧ p = r) ∨ (t.cps.toList < (zT x).cps.toList ∧ zT x ∉ p.map zS ∧ ∃ z ∈ Z, zS z = zT x ∧ p ++ [z] <+: r) := by
  obtain ⟨s, e⟩ := h
  have pn : p ≠ [] := fun z => by rw [z] at hx; cases hx
  have pl := List.length_pos_iff.mpr pn
  cases s with
  | nil =>
    rw [List.append_nil] at e
    subst e
    exact .inl ⟨R.cl x hx, rfl⟩
  | cons z s =>
    have hz : z ∈ r := by rw [← e]; simp
    have at1 : r[p.length - 1]? = some x := by rw [← e, List.getElem?_append_left (by omega), ← List.getLast?_eq_getElem?]; exact hx
    have at2 : r[p.length - 1 + 1]? = some z := by rw [← e, List.getElem?_append_right (by omega), show p.length - 1 + 1 - p.length = 0 by omega]; rfl
    have e1 : zT x = zS z := R.ch _ _ _ at1 at2
    have g : t.cps.toList < (zS z).cps.toList := R.gt z (by rw [← e, List.drop_append_of_le_length pl]; simp)
    refine .inr ⟨by rw [e1]; exact g, ?_, z, R.mem z hz, e1.symm, s, by rw [← e]; simp⟩
    intro hm
    have := R.nd
    rw [← e, List.map_append, List.map_cons] at this
    exact (List.nodup_append.mp this).2.2 _ hm _ (by rw [e1]; simp) rfl
theorem nodup_leZ {α : Type} [DecidableEq α] : ∀ {L M : List α}, L.Nodup → (∀ x ∈ L, x ∈ M) → L.length ≤ M.length
  | [], _, _, _ => Nat.zero_le _
  | x :: L, M, hn, h => by
    rw [List.nodup_cons] at hn
    have hx := h x (by simp)
    have ih := nodup_leZ (L := L) (M := M.erase x) hn.2 fun y hy => (List.mem_erase_of_ne (fun (e : y = x) => hn.1 (by rw [← e]; exact hy))).mpr (h y (by simp [hy]))
    rw [List.length_erase_of_mem hx] at ih
    have := List.length_pos_of_mem hx
    rw [List.length_cons]; omega
theorem PtZ.len {Z : List Zr} {t : Str} {p : List Zr} {ws : List Str} (h : PtZ Z t p) (hw : ∀ z ∈ Z, zS z ∈ ws) (hl : ws.length ≤ 6) : 1 ≤ p.length ∧ p.length ≤ 6 := by
  refine ⟨List.length_pos_iff.mpr h.ne, ?_⟩
  have := nodup_leZ (M := ws) h.nd fun w hm => by
    obtain ⟨z, hz, rfl⟩ := List.mem_map.mp hm
    exact hw z (h.mem z hz)
  rw [List.length_map] at this
  omega
def wtP (p : List Zr) : Nat := 13 ^ (6 - p.length)
def wtS (st : List (List Zr)) : Nat := (st.map wtP).sum
theorem wtP_pos (p : List Zr) : 1 ≤ wtP p := Nat.one_le_pow _ _ (by decide)
theorem wtS_len : ∀ st : List (List Zr), st.length ≤ wtS st
  | [] => Nat.zero_le _
  | p :: st => by
    have := wtS_len st
    have := wtP_pos p
    unfold wtS at *
    rw [List.map_cons, List.sum_cons, List.length_cons]; omega
theorem wtS_app (a b : List (List Zr)) : wtS (a ++ b) = wtS a + wtS b := by unfold wtS; rw [List.map_append, List.sum_append]
theorem wtS_ext {p : List Zr} (hl : p.length + 1 ≤ 6) : ∀ L : List Zr, wtS (L.map fun z => p ++ [z]) = L.length * 13 ^ (6 - (p.length + 1))
  | [] => by simp [wtS]
  | z :: L => by
    have := wtS_ext hl L
    unfold wtS at *
    rw [List.map_cons, List.map_cons, List.sum_cons, this, List.length_cons, Nat.add_mul, Nat.one_mul, Nat.add_comm]
    unfold wtP
    rw [List.length_append]; rfl
theorem wtS_less {p : List Zr} {L : List Zr} (hl : L.length ≤ 12) (hp : p.length + 1 ≤ 6) : wtS (L.map fun z => p ++ [z]) + 1 ≤ wtP p := by
  rw [wtS_ext hp]
  unfold wtP
  have e : 13 ^ (6 - p.length) = 13 * 13 ^ (6 - (p.length + 1)) := by
    rw [show 6 - p.length = (6 - (p.length + 1)) + 1 by omega, Nat.pow_succ, Nat.mul_comm]
  rw [e]
  have := Nat.mul_le_mul_right (13 ^ (6 - (p.length + 1))) hl
  have := Nat.one_le_pow (6 - (p.length + 1)) 13 (by decide)
  omega
theorem wtS_one : ∀ L : List Zr, wtS (L.map fun z => [z]) = L.length * 371293
  | [] => rfl
  | z :: L => by
    have := wtS_one L
    unfold wtS at *
    rw [List.map_cons, List.map_cons, List.sum_cons, this, List.length_cons, Nat.add_mul]
    show 13 ^ (6 - 1) + _ = _
    omega
theorem count_split {Z : List Zr} {dn : List Str} {t : Str} (ht : t ∉ dn) : (Z.filter fun z => decide (zS z ∈ dn ++ [t])).length = (Z.filter fun z => decide (zS z ∈ dn)).length + (Z.filter fun z => decide (zS z = t)).length := by
  induction Z with
  | nil => rfl
  | cons z Z ih =>
    simp only [List.filter_cons, List.mem_append, List.mem_singleton] at ih ⊢
    by_cases h1 : zS z ∈ dn
    · have h2 : zS z ≠ t := fun e => ht (e ▸ h1)
      simp only [h1, h2, true_or, or_false, decide_true, decide_false, if_true, Bool.false_eq_true, if_false, List.length_cons] at ih ⊢
      omega
    · by_cases h2 : zS z = t
      · simp only [h1, h2, or_true, ht, decide_true, decide_false, if_true, Bool.false_eq_true, if_false, List.length_cons] at ih ⊢
        omega
      · simp only [h1, h2, or_self, decide_false, Bool.false_eq_true, if_false] at ih ⊢
        exact ih

/-! ### the rounds that a law finds -/
abbrev rnE (p : List Zr) : EV := .lst (p.map knE)
theorem okD_rn (p : List Zr) : okD 3 (rnE p) = true := okD_map fun z _ => okD_kn z
theorem gtS_i {a b : Str} {eh : Eh} {q : KE} (k : q (.bl (decide (b.cps.toList < a.cps.toList))) eh) : oGtS (.str a) (.str b) eh q := ⟨a, b, rfl, rfl, k⟩
theorem sortset_i {m : ME} {xc : XC} {es : Es} {eh : Eh} {q : KE} (h : m xc es eh fun x eh1 => ∃ ks : List Str, lstE eh1 x = some (ks.map .str) ∧ ks.length < 64 ∧ ∀ ys : List Str, ys.Nodup → (∀ y, y ∈ ys ↔ y ∈ ks) → sortedS ys = true → q (.lst (ys.map .str)) eh1) : mSortSet m xc es eh q := h
theorem kn0 (z : Zr) : atI [EV.str z.1.1, .int z.1.2, .str z.2.t, .tup (z.2.v.map .int)] 0 = some (.str (zS z)) := rfl
theorem kn2 (z : Zr) : atI [EV.str z.1.1, .int z.1.2, .str z.2.t, .tup (z.2.v.map .int)] 2 = some (.str (zT z)) := rfl
theorem last_kn {p : List Zr} {x : Zr} (h : p.getLast? = some x) : atI (p.map knE) (-1) = some (knE x) := by
  obtain ⟨l, rfl⟩ := List.getLast?_eq_some_iff.mp h
  rw [List.map_append]
  exact at_last
/-- the heap of the search at one table -/
structure CyH (eh0 eh : Eh) (f w : Addr) (F st : List (List Zr)) : Prop where
  hf : eh f = some (.lst (F.map rnE))
  hw : eh w = some (.lst (st.map rnE))
  ne : f ≠ w
  f0 : eh0 f = none
  w0 : eh0 w = none
  kp : Kp eh0 eh
/-- what is known in the search -/
structure CyI (Z : List Zr) (t : Str) (dn : List Str) (F st : List (List Zr)) : Prop where
  p : ∀ q ∈ st, PtZ Z t q
  f : ∀ q ∈ F, ∃ t, RdZ Z t q
  c : ∀ r, RdZ Z t r → r ∈ F ∨ ∃ q ∈ st, q <+: r
  d : ∀ t' ∈ dn, ∀ r, RdZ Z t' r → r ∈ F
theorem cyc_while {xc : XC} {d : Dn} {Z : List Zr} {ws : List Str} {t : Str} {dn : List Str} {F st : List (List Zr)} {f w : Addr} {z4 z5 : Option EV} {eh0 eh : Eh} (hw : ∀ z ∈ Z, zS z ∈ ws ∧ zT z ∈ ws) (hl : ws.length ≤ 6) (hZ : Z.length ≤ 12) (C : Nat) (hC : C ≤ 5000000) (H : CyH eh0 eh f w F st) (I : CyI Z t dn F st) (hc : F.length + wtS st ≤ C)
    (k : ∀ (F : List (List Zr)) eh1 z4 z5, CyH eh0 eh1 f w F [] → CyI Z t dn F [] → F.length ≤ C → d.nx [some (.lst (Z.map knE)), some (.ref f), some (.str t), some (.ref w), z4, z5, none] eh1) :
    sWhile (tVal (mOp (cEq true) (mVar 3) (mLst aNil))) bd__law_cycles_5 xc d [some (.lst (Z.map knE)), some (.ref f), some (.str t), some (.ref w), z4, z5, none] eh := by
  have hsz : 6000000 ≤ sizeLine := by decide
  refine while_inv (fun n es eh' => ∃ (F st : List (List Zr)) (z4 z5 : Option EV), CyH eh0 eh' f w F st ∧ CyI Z t dn F st ∧ F.length + wtS st ≤ C ∧ wtS st = n ∧ es = [some (.lst (Z.map knE)), some (.ref f), some (.str t), some (.ref w), z4, z5, none]) (wtS st) ⟨F, st, z4, z5, H, I, hc, rfl, rfl⟩ ?_
  rintro n es eh' ⟨F, st, z4, z5, H, I, hc, hn, rfl⟩ qt hq
  walk_at "go"
  refine eq_i (n := 4) (m := 1) (x' := .lst (st.map rnE)) (y' := .lst []) (decide (st = [])) (fro_ref H.hw) rfl (okD_map fun p _ => okD_rn p) rfl (by decide) (by decide) (by cases st <;> simp) ?_
  refine ⟨_, rfl, ?_⟩
  rw [Bool.true_xor]
  by_cases hst : st = []
  · rw [decide_eq_true hst]
    refine hq _ _ (fun z => nomatch z) fun _ => ?_
    subst hst
    exact k F eh' z4 z5 H I (by omega)
  rw [decide_eq_false hst]
  refine hq _ _ (fun _ d' hrt hnx _ _ => ?_) fun z => nomatch z
  obtain ⟨st1, p, rfl⟩ : ∃ st1 p, st = st1 ++ [p] := ⟨st.dropLast, st.getLast hst, (List.dropLast_concat_getLast hst).symm⟩
  have hp := I.p p (by simp)
  have hpl := hp.len (fun z hz => (hw z hz).1) hl
  obtain ⟨x, hx⟩ : ∃ x, p.getLast? = some x := ⟨p.getLast hp.ne, List.getLast?_eq_some_getLast hp.ne⟩
  rw [wtS_app] at hn hc
  have e1 : wtS [p] = wtP p := by unfold wtS; simp
  rw [e1] at hn hc
  have wp := wtP_pos p
  unfold bd__law_cycles_5
  walk_at "go"
  refine ⟨isLst_ref H.hw, ?_⟩
  walk_at "go"
  refine ⟨st1.map rnE, rnE p, by rw [H.hw, List.map_append]; rfl, ?_⟩
  have H1 : CyH eh0 (eupd eh' w (some (.lst (st1.map rnE)))) f w F st1 := ⟨by rw [eupd_ne H.ne]; exact H.hf, eupd_same, H.ne, H.f0, H.w0, H.kp.set H.w0⟩
  generalize eupd eh' w (some (.lst (st1.map rnE))) = eh1 at H1
  clear H
  walk_at "go"
  refine ix_i (xs := p.map knE) (z := knE x) rfl (last_kn hx) ?_
  walk_at "go"
  refine ix_i (xs := [.str x.1.1, .int x.1.2, .str x.2.t, .tup (x.2.v.map .int)]) (z := .str (zT x)) rfl (kn2 x) ?_
  walk_at "go"
  refine cD_i (fun h1 => ?_) (fun h1 => ?_)
  · walk_at "go"
    refine ⟨isLst_ref H1.hf, ?_⟩
    walk_at "go"
    refine ⟨_, H1.hf, by rw [List.length_map]; omega, ?_⟩
    refine hnx (wtS st1) _ _ (by omega) ⟨F ++ [p], st1, _, _, ⟨by rw [eupd_same, List.map_append]; rfl, by rw [eupd_ne H1.ne.symm]; exact H1.hw, H1.ne, H1.f0, H1.w0, H1.kp.set H1.f0⟩, ⟨fun q hq => I.p q (by simp [hq]), fun q hq => ?_, fun r hr => ?_, fun t' ht r hr => by simp [I.d t' ht r hr]⟩, by simp; omega, rfl, rfl⟩
    · rcases List.mem_append.mp hq with hq | hq
      · exact I.f q hq
      · rw [List.mem_singleton.mp hq]
        exact ⟨t, hp, fun z hz => by rw [hx] at hz; rw [← Option.some.inj hz]; exact h1⟩
    · rcases I.c r hr with hr2 | ⟨q, hq, hpre⟩
      · exact .inl (by simp [hr2])
      · rcases List.mem_append.mp hq with hq | hq
        · exact .inr ⟨q, hq, hpre⟩
        · rw [List.mem_singleton.mp hq] at hpre
          rcases hr.pre hpre hx with ⟨_, e⟩ | ⟨g, _⟩
          · exact .inl (by simp [e])
          · rw [h1] at g; exact absurd g lt_irr
  · walk_at "go"
    refine gtS_i ?_
    walk_at "go"
    -- no round goes on from here
    have stop : (∀ r, RdZ Z t r → ¬ p <+: r) → d'.nx [some (.lst (Z.map knE)), some (.ref f), some (.str t), some (.ref w), some (rnE p), some (.str (zT x)), none] eh1 := fun no => by
      refine hnx (wtS st1) _ _ (by omega) ⟨F, st1, _, _, H1, ⟨fun q hq => I.p q (by simp [hq]), I.f, fun r hr => ?_, I.d⟩, by omega, rfl, rfl⟩
      rcases I.c r hr with hr2 | ⟨q, hq, hpre⟩
      · exact .inl hr2
      · rcases List.mem_append.mp hq with hq | hq
        · exact .inr ⟨q, hq, hpre⟩
        · rw [List.mem_singleton.mp hq] at hpre
          exact absurd hpre (no r hr)
    refine cD_i (fun h2 => ?_) (fun h2 => ?_)
    · walk_at "go"
      refine comp_map (c := knE) (f := fun z => .str (zS z)) trivial (by simp; omega) (fun z hz => asgx_i rfl fun q' hq' => ?_) ?_
      · unfold ce__law_cycles_3
        walk_at "go"
        refine ix_i (xs := [.str z.1.1, .int z.1.2, .str z.2.t, .tup (z.2.v.map .int)]) rfl (kn0 z) ?_
        exact hq'
      rw [List.nil_append]
      walk_at "go"
      refine in_i (n := 0) (decide (zT x ∈ p.map zS)) (L := p.map fun z => .str (zS z)) rfl okD_str (fun y hy => by obtain ⟨c, _, rfl⟩ := List.mem_map.mp hy; exact okD_str) (by decide) (by
        rw [decide_eq_true_eq]
        constructor
        · intro h
          obtain ⟨c, hc, e⟩ := List.mem_map.mp h
          exact List.mem_map.mpr ⟨c, hc, by rw [e]⟩
        · intro h
          obtain ⟨c, hc, e⟩ := List.mem_map.mp h
          exact List.mem_map.mpr ⟨c, hc, EV.str.inj e⟩) ?_
      rw [Bool.true_xor]
      refine ⟨_, rfl, ?_⟩
      by_cases h3 : zT x ∈ p.map zS
      · rw [decide_eq_true h3]
        walk_at "go"
        refine stop fun r hr hpre => ?_
        rcases hr.pre hpre hx with ⟨e, _⟩ | ⟨_, n, _⟩
        · exact h1 e
        · exact n h3
      rw [decide_eq_false h3]
      have p5 : p.length + 1 ≤ 6 := by
        have hxp : x ∈ p := by obtain ⟨l, rfl⟩ := List.getLast?_eq_some_iff.mp hx; simp
        have := nodup_leZ (L := zT x :: p.map zS) (M := ws) (List.nodup_cons.mpr ⟨h3, hp.nd⟩) fun w hm => by
          rcases List.mem_cons.mp hm with rfl | hm
          · exact (hw x (hp.mem x hxp)).2
          · obtain ⟨z, hz, rfl⟩ := List.mem_map.mp hm
            exact (hw z (hp.mem z hz)).1
        rw [List.length_cons, List.length_map] at this
        omega
      refine cT_i ?_
      walk_at "go"
      refine ⟨isLst_ref H1.hw, ?_⟩
      walk_at "go"
      refine comp_filter (c := knE) (f := fun z => rnE (p ++ [z])) (p := fun z => decide (zS z = zT x)) trivial (by simp; omega) (fun z hz => asgx_i rfl ⟨fun q' hq' => ?_, fun _ q' hq' => ?_⟩) ?_
      · walk_at "go"
        refine ix_i (xs := [.str z.1.1, .int z.1.2, .str z.2.t, .tup (z.2.v.map .int)]) rfl (kn0 z) ?_
        walk_at "go"
        exact hq'
      · unfold ce__law_cycles_4
        walk_at "go"
        refine addF_i (us := p.map knE) (vs := [knE z]) (szL (by simp; omega)) ?_
        rw [show p.map knE ++ [knE z] = (p ++ [z]).map knE by simp]
        exact hq'
      rw [List.nil_append]
      walk_at "go"
      have ln : (Z.filter fun z => decide (zS z = zT x)).length ≤ 12 := Nat.le_trans (List.length_filter_le _ _) hZ
      have wl := wtS_less (p := p) ln p5
      have sl := wtS_len st1
      have em : (Z.filter fun z => decide (zS z = zT x)).map (fun z => rnE (p ++ [z])) = ((Z.filter fun z => decide (zS z = zT x)).map fun z => p ++ [z]).map rnE := by rw [List.map_map]; rfl
      rw [em]
      refine ⟨_, _, H1.hw, rfl, by simp only [List.length_map]; omega, ?_⟩
      rw [← List.map_append]
      refine hnx (wtS (st1 ++ (Z.filter fun z => decide (zS z = zT x)).map fun z => p ++ [z])) _ _ (by rw [wtS_app]; omega) ⟨F, _, _, _, ⟨by rw [eupd_ne H1.ne]; exact H1.hf, eupd_same, H1.ne, H1.f0, H1.w0, H1.kp.set H1.w0⟩, ⟨fun q hq => ?_, I.f, fun r hr => ?_, I.d⟩, by rw [wtS_app]; omega, rfl, rfl⟩
      · rcases List.mem_append.mp hq with hq | hq
        · exact I.p q (by simp [hq])
        · obtain ⟨z, hz, rfl⟩ := List.mem_map.mp hq
          obtain ⟨hz1, hz2⟩ := List.mem_filter.mp hz
          have hz2 : zS z = zT x := by simpa using hz2
          exact hp.snoc hx hz1 hz2 (by rw [hz2]; exact h2) (by rw [hz2]; exact h3)
      · rcases I.c r hr with hr2 | ⟨q, hq, hpre⟩
        · exact .inl hr2
        · rcases List.mem_append.mp hq with hq | hq
          · exact .inr ⟨q, by simp [hq], hpre⟩
          · rw [List.mem_singleton.mp hq] at hpre
            rcases hr.pre hpre hx with ⟨e, _⟩ | ⟨_, _, z, hz, ez, hp2⟩
            · exact absurd e h1
            · exact .inr ⟨p ++ [z], List.mem_append.mpr (.inr (List.mem_map.mpr ⟨z, List.mem_filter.mpr ⟨hz, by simpa using ez⟩, rfl⟩)), hp2⟩
    · walk_at "go"
      refine stop fun r hr hpre => ?_
      rcases hr.pre hpre hx with ⟨e, _⟩ | ⟨g, _⟩
      · exact h1 e
      · exact h2 g
theorem cycles_fz {S : Addr → Bool} {xc : XC} {Z : List Zr} {ws : List Str} {eh : Eh} {q : KE} (hS : S = nw eh) (hw : ∀ z ∈ Z, zS z ∈ ws ∧ zT z ∈ ws) (hl : ws.length ≤ 6) (hZ : Z.length ≤ 12)
    (k : ∀ C : List (List Zr), (∀ p ∈ C, ∃ t, RdZ Z t p) → (∀ t r, RdZ Z t r → r ∈ C) → C.length ≤ 5000000 → q (.lst (C.map rnE)) eh) :
    ([EV.lst (Z.map knE)] ++ []).length = 1 ∧ FZ S fn__law_cycles xc ([EV.lst (Z.map knE)] ++ []) eh q := by
  refine ⟨rfl, ?_⟩
  subst hS
  unfold FZ fn__law_cycles ms__law_cycles
  walk_at "go"
  intro f hf
  walk_at "go"
  refine sortset_i ?_
  walk_at "go"
  refine comp_map (c := knE) (f := fun z => .str (zS z)) trivial (by simp; omega) (fun z hz => asgx_i rfl fun q' hq' => ?_) ?_
  · unfold ce__law_cycles_1
    walk_at "go"
    refine ix_i (xs := [.str z.1.1, .int z.1.2, .str z.2.t, .tup (z.2.v.map .int)]) rfl (kn0 z) ?_
    exact hq'
  rw [List.nil_append]
  refine ⟨Z.map zS, by rw [List.map_map]; rfl, by rw [List.length_map]; omega, fun ys hyn hym hys => ?_⟩
  walk_at "go"
  refine for_inv (c := EV.str) (fun L es eh' => ∃ (dn : List Str) (F : List (List Zr)) (z2 z3 z4 z5 : Option EV), dn ++ L = ys ∧ eh' f = some (.lst (F.map rnE)) ∧ Kp eh eh' ∧ (∀ q ∈ F, ∃ t, RdZ Z t q) ∧ (∀ t' ∈ dn, ∀ r, RdZ Z t' r → r ∈ F) ∧ F.length ≤ 371293 * (Z.filter fun z => decide (zS z ∈ dn)).length ∧
    es = [some (.lst (Z.map knE)), some (.ref f), z2, z3, z4, z5, none]) ⟨[], [], _, _, _, _, rfl, eupd_same, .new hf, by simp, by simp, by simp, rfl⟩ ?_ ?_
  · rintro t L es eh' ⟨dn, F, z2, z3, z4, z5, e, hF, kp, hf1, hd1, hlen, rfl⟩
    have tn : t ∉ dn := fun z => by
      rw [← e] at hyn
      exact (List.nodup_append.mp hyn).2.2 t z t (by simp) rfl
    have cs := count_split (Z := Z) tn
    have cl : (Z.filter fun z => decide (zS z ∈ dn ++ [t])).length ≤ 12 := Nat.le_trans (List.length_filter_le _ _) hZ
    refine ⟨trivial, _, rfl, fun d' hrt hnx _ _ => ?_⟩
    unfold bd__law_cycles_6
    walk_at "go"
    refine comp_filter (c := knE) (f := fun z => .lst [knE z]) (p := fun z => decide (zS z = t)) trivial (by simp; omega) (fun z hz => asgx_i rfl ⟨fun q' hq' => ?_, fun _ q' hq' => ?_⟩) ?_
    · walk_at "go"
      refine ix_i (xs := [.str z.1.1, .int z.1.2, .str z.2.t, .tup (z.2.v.map .int)]) rfl (kn0 z) ?_
      walk_at "go"
      exact hq'
    · walk_at "go"
      exact hq'
    rw [List.nil_append]
    refine ⟨_, rfl, fun w hwn => ?_⟩
    have fw : f ≠ w := fun z => by rw [← z, hF] at hwn; cases hwn
    have w0 := kp_none kp hwn
    have em : (Z.filter fun z => decide (zS z = t)).map (fun z => EV.lst [knE z]) = ((Z.filter fun z => decide (zS z = t)).map fun z => [z]).map rnE := by rw [List.map_map]; rfl
    rw [em]
    have wo := wtS_one (Z.filter fun z => decide (zS z = t))
    walk_at "go"
    refine cyc_while (dn := dn) (F := F) (st := (Z.filter fun z => decide (zS z = t)).map fun z => [z]) hw hl hZ (371293 * (Z.filter fun z => decide (zS z ∈ dn ++ [t])).length) (by omega) ⟨by rw [eupd_ne fw]; exact hF, eupd_same, fw, hf, w0, kp.set w0⟩ ⟨fun q hq => ?_, hf1, fun r hr => .inr ?_, hd1⟩ (by omega) fun F2 eh2 z4 z5 H2 I2 hl2 => ?_
    · obtain ⟨z, hz, rfl⟩ := List.mem_map.mp hq
      obtain ⟨hz1, hz2⟩ := List.mem_filter.mp hz
      have hz2 : zS z = t := by simpa using hz2
      rw [← hz2]; exact .one hz1
    · cases r with
      | nil => exact absurd rfl hr.ne
      | cons z r =>
        have hz := hr.hd z rfl
        exact ⟨[z], List.mem_map.mpr ⟨z, List.mem_filter.mpr ⟨hr.mem z (by simp), by simpa using hz⟩, rfl⟩, r, rfl⟩
    · refine hnx _ _ ⟨dn ++ [t], F2, _, _, _, _, by simp [e], H2.hf, H2.kp, I2.f, fun t' ht' r hr => ?_, hl2, rfl⟩
      rcases List.mem_append.mp ht' with ht' | ht'
      · exact I2.d t' ht' r hr
      · rw [List.mem_singleton.mp ht'] at hr
        rcases I2.c r hr with h | ⟨q, hq, _⟩
        · exact h
        · cases hq
  · rintro es eh' ⟨dn, F, z2, z3, z4, z5, e, hF, kp, hf1, hd1, hlen, rfl⟩
    rw [List.append_nil] at e
    refine ⟨trivial, ?_⟩
    dsimp only
    walk_at "go"
    refine fin_list (n := 4) kp hf hF (okB_map fun p _ => okB_of (okD_rn p)) (k F hf1 (fun t r hr => ?_) ?_)
    · refine hd1 t ?_ r hr
      rw [e]
      refine (hym t).mpr ?_
      cases r with
      | nil => exact absurd rfl hr.ne
      | cons z r => exact List.mem_map.mpr ⟨z, hr.mem z (by simp), hr.hd z rfl⟩
    · have := List.length_filter_le (fun z => decide (zS z ∈ dn)) Z
      omega

/-! ### walks judged by a law -/
abbrev knX (rs : List Row) (x : Str × Int) : EV := knE (x, rdOf rs x)
section
variable {S : Addr → Bool} {xc : XC} {dims md : Int} {rs : List Row} {W : List (Str × Int)} {WV : EV} {eh : Eh} {q : KE}
theorem ltotal_fz (hS : S = nw eh) (h : SysFit dims md rs) (hW : ∀ x ∈ W, x ∈ rdI rs) (hl : W.length ≤ 15000000) (k : q (.tup ((sumV dims.toNat rs W).map .int)) eh) :
    ([EV.lst (W.map (knX rs)), .int dims] ++ []).length = 2 ∧ FZ S fn__law_total xc ([EV.lst (W.map (knX rs)), .int dims] ++ []) eh q := by
  refine ⟨rfl, ?_⟩
  subst hS
  have hd := h.d
  have hsl : 15000000 + 1000 ≤ sizeLine := by decide
  unfold FZ fn__law_total ms__law_total
  walk_at "go"
  refine ⟨_, rfl, by omega, ?_⟩
  refine comp_map (c := fun i : Nat => EV.int (i : Int)) (f := fun a : Nat => .int ((W.map fun x => (vcI rs x).getD a 0).sum)) trivial (by simp; omega) (fun i hi => asgx_i rfl fun q' hq' => ?_) ?_
  · have hi' := List.mem_range.mp hi
    unfold ce__law_total_2
    walk_at "go"
    refine compB_map (c := knX rs) (f := fun x => .int ((vcI rs x).getD i 0)) trivial (by simp; omega) (fun x hx => asgx_i rfl fun q2 hq2 => ?_) ?_
    · unfold ce__law_total_1
      have hv := (rdI_fit h (hW x hx)).1
      walk_at "go"
      refine ix_i (xs := [.str x.1, .int x.2, .str (rdOf rs x).t, .tup ((vcI rs x).map .int)]) (z := .tup ((vcI rs x).map .int)) rfl (by rfl) ?_
      walk_at "go"
      exact ix_i (xs := (vcI rs x).map .int) rfl (at_cells (show (vcI rs x)[i]? = some ((vcI rs x).getD i 0) by rw [List.getD_eq_getElem?_getD, List.getElem?_eq_getElem (by omega)]; rfl)) hq2
    walk_at "go"
    refine ⟨_, W.map fun x => (vcI rs x).getD i 0, rfl, ?_, hq'⟩
    rw [List.nil_append, show W.map (fun x => EV.int ((vcI rs x).getD i 0)) = (W.map fun x => (vcI rs x).getD i 0).map .int by rw [List.map_map]; rfl]
    exact intsE_map _
  walk_at "go"
  rw [List.nil_append, show (List.range dims.toNat).map (fun a : Nat => EV.int ((W.map fun x => (vcI rs x).getD a 0).sum)) = (sumV dims.toNat rs W).map .int by unfold sumV; rw [List.map_map]; rfl]
  exact fin_data (n := 1) .refl (okB_of (okD_tup fun _ _ => rfl)) k
end

/-! ### repr of two truth values -/
/-! ### k17: the law -/
theorem made_fz {S : Addr → Bool} {xc : XC} {dims : Int} {rows : List Row} {eh : Eh} {q : KE} (hS : S = nw eh) (h : SysFit dims 97 rows) (k : q (sysE dims 97 (sortR rows)) eh) : ([EV.int dims, .lst (rows.map rowE)] ++ []).length = 2 ∧ FZ S fn__law_made xc ([EV.int dims, .lst (rows.map rowE)] ++ []) eh q := by
  refine ⟨rfl, ?_⟩
  subst hS
  unfold FZ fn__law_made ms__law_made
  walk_at "go"
  refine ⟨rfl, ?_⟩
  refine init_mz rfl h ?_
  exact fin_sys .refl k
theorem bsortS_i {eh : Eh} {q : KE} {x : EV} {ks : List Str} (h : lstE eh x = some (ks.map .str)) (hl : ks.length < 64) (k : ∀ ys : List Str, ys.Perm ks → sortedS ys = true → q (.lst (ys.map .str)) eh) : bSortS [x] eh q := ⟨ks, h, hl, k⟩
/-! ### least sums along walks (no program) -/
section
variable {tg : Str × Int → Str} {c : Str × Int → Int}
def updF {β : Type} (f : Str → β) (w : Str) (v : β) : Str → β := fun z => if z = w then v else f z
theorem updF_same {β : Type} {f : Str → β} {w : Str} {v : β} : updF f w v w = v := if_pos rfl
theorem updF_ne {β : Type} {f : Str → β} {w z : Str} {v : β} (h : z ≠ w) : updF f w v z = f z := if_neg h
/-- what is known in a pass with a number: the reads D are looked at; u tells the pass of the last change -/
structure LwI (tg : Str × Int → Str) (c : Str × Int → Int) (L : List (Str × Int)) (k : Nat) (D : List (Str × Int)) (low : Str → Int) (cs : Str → Option (Str × Int)) (u : Str → Nat) : Prop where
  mem : ∀ w x, cs w = some x → x ∈ L ∧ x.1 = w ∧ 1 ≤ u w
  has : ∀ w, 1 ≤ u w → ∃ x, cs w = some x
  ge : ∀ w x, cs w = some x → low (tg x) + c x ≤ low w
  uk : ∀ w, u w ≤ k
  ch : ∀ w x, cs w = some x → u w ≤ u (tg x) + 1
  dn : ∀ x ∈ D, low x.1 ≤ low (tg x) + c x ∨ k ≤ u (tg x)
  up : ∀ x ∈ L, low x.1 ≤ low (tg x) + c x ∨ k ≤ u (tg x) + 1
  wk : ∀ w, ∃ P t, isPath (fun x : Str × Int => x.1) tg w P t ∧ (∀ x ∈ P, x ∈ L) ∧ low w = (P.map c).sum
  np : ∀ w, low w ≤ 0
  ng : ∀ w P, P ≠ [] → isPath (fun x : Str × Int => x.1) tg w P w → (∀ x ∈ P, cs x.1 = some x) → (P.map (·.1)).Nodup → (P.map c).sum < 0
theorem LwI.start (L : List (Str × Int)) : LwI tg c L 1 [] (fun _ => 0) (fun _ => none) (fun _ => 0) where
  mem := fun w x h => nomatch h
  has := fun w h => absurd h (by omega)
  ge := fun w x h => nomatch h
  uk := fun w => by omega
  ch := fun w x h => nomatch h
  dn := fun x h => nomatch h
  up := fun x h => .inr (by omega)
  wk := fun w => ⟨[], w, rfl, by simp, rfl⟩
  np := fun w => by omega
  ng := fun w P hne _ hc _ => by
    cases P with
    | nil => exact absurd rfl hne
    | cons x P => exact absurd (hc x (by simp)) (by simp)
theorem path_split {l m : List (Str × Int)} : ∀ {a b : Str}, isPath (fun x : Str × Int => x.1) tg a (l ++ m) b → ∃ t, isPath (fun x : Str × Int => x.1) tg a l t ∧ isPath (fun x : Str × Int => x.1) tg t m b := by
  induction l with
  | nil => intro a b h; exact ⟨a, rfl, h⟩
  | cons x l ih =>
    intro a b h
    obtain ⟨h1, h2⟩ := h
    obtain ⟨t, p1, p2⟩ := ih h2
    exact ⟨t, ⟨h1, p1⟩, p2⟩
theorem path_cat {l m : List (Str × Int)} : ∀ {a t b : Str}, isPath (fun x : Str × Int => x.1) tg a l t → isPath (fun x : Str × Int => x.1) tg t m b → isPath (fun x : Str × Int => x.1) tg a (l ++ m) b := by
  induction l with
  | nil => intro a t b h k; cases h; exact k
  | cons x l ih => intro a t b h k; exact ⟨h.1, ih h.2 k⟩
theorem path_end {l : List (Str × Int)} : ∀ {a t t' : Str}, isPath (fun x : Str × Int => x.1) tg a l t → isPath (fun x : Str × Int => x.1) tg a l t' → t = t' := by
  induction l with
  | nil => intro a t t' h k; cases h; cases k; rfl
  | cons x l ih => intro a t t' h k; exact ih h.2 k.2
/-- along causes the numbers fall by what is read -/
theorem chain_ge {low : Str → Int} {cs : Str → Option (Str × Int)} (ge : ∀ w x, cs w = some x → low (tg x) + c x ≤ low w) : ∀ {P : List (Str × Int)} {a b : Str}, isPath (fun x : Str × Int => x.1) tg a P b → (∀ x ∈ P, cs x.1 = some x) → low b + (P.map c).sum ≤ low a
  | [], a, b, h, _ => by cases h; simp
  | x :: P, a, b, h, hc => by
    have h1 := chain_ge ge h.2 fun y hy => hc y (by simp [hy])
    have h2 := ge x.1 x (hc x (by simp))
    have h3 : x.1 = a := h.1
    rw [h3] at h2
    rw [List.map_cons, List.sum_cons]
    omega
theorem path_le {low : Str → Int} {L : List (Str × Int)} (le : ∀ x ∈ L, low x.1 ≤ low (tg x) + c x) : ∀ {P : List (Str × Int)} {a b : Str}, isPath (fun x : Str × Int => x.1) tg a P b → (∀ x ∈ P, x ∈ L) → low a ≤ low b + (P.map c).sum
  | [], a, b, h, _ => by cases h; simp
  | x :: P, a, b, h, hc => by
    have h1 := path_le le h.2 fun y hy => hc y (by simp [hy])
    have h2 := le x (hc x (by simp))
    have h3 : x.1 = a := h.1
    rw [h3] at h2
    rw [List.map_cons, List.sum_cons]
    omega
variable {L : List (Str × Int)} {k : Nat} {D : List (Str × Int)} {low : Str → Int} {cs : Str → Option (Str × Int)} {u : Str → Nat}
theorem LwI.keep {x : Str × Int} (H : LwI tg c L k D low cs u) (h : low x.1 ≤ low (tg x) + c x) : LwI tg c L k (D ++ [x]) low cs u :=
  ⟨H.mem, H.has, H.ge, H.uk, H.ch, fun y hy => by
    rcases List.mem_append.mp hy with hy | hy
    · exact H.dn y hy
    · rw [List.mem_singleton.mp hy]; exact .inl h, H.up, H.wk, H.np, H.ng⟩
theorem LwI.lower {x : Str × Int} (H : LwI tg c L k D low cs u) (hk : 1 ≤ k) (hx : x ∈ L) (h : low (tg x) + c x < low x.1) : LwI tg c L k (D ++ [x]) (updF low x.1 (low (tg x) + c x)) (updF cs x.1 (some x)) (updF u x.1 k) := by
  have le : ∀ w, updF low x.1 (low (tg x) + c x) w ≤ low w := fun w => by
    by_cases e : w = x.1
    · subst e; rw [updF_same]; omega
    · rw [updF_ne e]; omega
  have ug : ∀ w, u w ≤ updF u x.1 k w := fun w => by
    by_cases e : w = x.1
    · subst e; rw [updF_same]; exact H.uk _
    · rw [updF_ne e]; omega
  have fix : ∀ {y : Str × Int} {m : Nat}, m ≤ k → (low y.1 ≤ low (tg y) + c y ∨ k ≤ u (tg y) + m) → updF low x.1 (low (tg x) + c x) y.1 ≤ updF low x.1 (low (tg x) + c x) (tg y) + c y ∨ k ≤ updF u x.1 k (tg y) + m := fun {y m} _ h => by
    by_cases e : tg y = x.1
    · right; rw [e, updF_same]; omega
    · rcases h with h | h
      · left; rw [updF_ne e]; have := le y.1; omega
      · right; have := ug (tg y); omega
  refine ⟨fun w y hy => ?_, fun w hw => ?_, fun w y hy => ?_, fun w => ?_, fun w y hy => ?_, fun y hy => ?_, fun y hy => fix (by omega) (H.up y hy), fun w => ?_, fun w => ?_, fun w P hne hP hc hn => ?_⟩
  · by_cases e : w = x.1
    · subst e; rw [updF_same] at hy ⊢; cases hy; exact ⟨hx, rfl, hk⟩
    · rw [updF_ne e] at hy ⊢; exact H.mem w y hy
  · by_cases e : w = x.1
    · subst e; exact ⟨x, updF_same⟩
    · rw [updF_ne e] at hw ⊢; exact H.has w hw
  · by_cases e : w = x.1
    · subst e; rw [updF_same] at hy ⊢; cases hy
      have := le (tg x); omega
    · rw [updF_ne e] at hy ⊢
      have h1 := H.ge w y hy
      have := le (tg y); omega
  · by_cases e : w = x.1
    · subst e; rw [updF_same]; omega
    · rw [updF_ne e]; exact H.uk w
  · by_cases e : w = x.1
    · subst e; rw [updF_same] at hy ⊢; cases hy
      have := ug (tg x)
      rcases H.up x hx with z | z <;> omega
    · rw [updF_ne e] at hy ⊢
      have h1 := H.ch w y hy
      have := ug (tg y); omega
  · rcases List.mem_append.mp hy with hy | hy
    · exact fix (m := 0) (by omega) (H.dn y hy)
    · rw [List.mem_singleton.mp hy]
      by_cases e : tg x = x.1
      · right; rw [e, updF_same]; omega
      · left; rw [updF_same, updF_ne e]; omega
  · by_cases e : w = x.1
    · subst e
      obtain ⟨P, t, h1, h2, h3⟩ := H.wk (tg x)
      exact ⟨x :: P, t, ⟨rfl, h1⟩, fun y hy => by
        rcases List.mem_cons.mp hy with rfl | hy
        · exact hx
        · exact h2 y hy, by rw [updF_same, List.map_cons, List.sum_cons, h3]; omega⟩
    · obtain ⟨P, t, h1, h2, h3⟩ := H.wk w
      exact ⟨P, t, h1, h2, by rw [updF_ne e]; exact h3⟩
  · have := le w; have := H.np w; omega
  · -- a round of causes
    by_cases hm : x ∈ P
    · obtain ⟨P1, P2, rfl⟩ := List.append_of_mem hm
      obtain ⟨t, p1, p2⟩ := path_split hP
      have e1 : x.1 = t := p2.1
      subst e1
      have pr : isPath (fun x : Str × Int => x.1) tg (tg x) (P2 ++ P1) x.1 := path_cat p2.2 p1
      have nd2 : x.1 ∉ (P2 ++ P1).map (·.1) := fun z => by
        rw [List.map_append, List.map_cons] at hn
        rw [List.map_append] at z
        obtain ⟨_, n2, n3⟩ := List.nodup_append.mp hn
        rcases List.mem_append.mp z with z | z
        · exact (List.nodup_cons.mp n2).1 z
        · exact n3 _ z _ (by simp) rfl
      have old : ∀ y ∈ P2 ++ P1, cs y.1 = some y := fun y hy => by
        have ne : y.1 ≠ x.1 := fun z => nd2 (by rw [← z]; exact List.mem_map.mpr ⟨y, hy, rfl⟩)
        have := hc y (by rcases List.mem_append.mp hy with hy | hy <;> simp [hy])
        rw [updF_ne ne] at this
        exact this
      have g := chain_ge H.ge pr old
      rw [List.map_append, List.map_cons, List.sum_append, List.sum_cons]
      rw [List.map_append, List.sum_append] at g
      omega
    · refine H.ng w P hne hP (fun y hy => ?_) hn
      have ne : y.1 ≠ x.1 := fun z => by
        have := hc y hy
        rw [z, updF_same] at this
        exact hm (by rw [Option.some.inj this]; exact hy)
      have := hc y hy
      rw [updF_ne ne] at this
      exact this
theorem LwI.next (H : LwI tg c L k L low cs u) : LwI tg c L (k + 1) [] low cs u :=
  ⟨H.mem, H.has, H.ge, fun w => by have := H.uk w; omega, H.ch, fun y hy => (nomatch hy), fun y hy => by
    rcases H.dn y hy with z | z
    · exact .inl z
    · exact .inr (by omega), H.wk, H.np, H.ng⟩
/-! going along causes -/
def ntF (tg : Str × Int → Str) (cs : Str → Option (Str × Int)) (w : Str) : Str := match cs w with | some x => tg x | none => w
def itF (tg : Str × Int → Str) (cs : Str → Option (Str × Int)) : Nat → Str → Str
  | 0, w => w
  | n + 1, w => ntF tg cs (itF tg cs n w)
theorem itF_add (a b : Nat) (w : Str) : itF tg cs (a + b) w = itF tg cs a (itF tg cs b w) := by
  induction a with
  | zero => rw [Nat.zero_add]; rfl
  | succ a ih => rw [show a + 1 + b = (a + b) + 1 by omega]; show ntF tg cs (itF tg cs (a + b) w) = ntF tg cs (itF tg cs a (itF tg cs b w)); rw [ih]
theorem it_u (H : LwI tg c L k D low cs u) {w : Str} : ∀ i, u w ≤ u (itF tg cs i w) + i
  | 0 => by show u w ≤ u w + 0; omega
  | i + 1 => by
    have ih := it_u H (w := w) i
    show u w ≤ u (ntF tg cs (itF tg cs i w)) + (i + 1)
    unfold ntF
    cases e : cs (itF tg cs i w) with
    | none => dsimp only; omega
    | some x => have := H.ch _ x e; dsimp only; omega
theorem pigeon {ws : List Str} : ∀ (f : Nat → Str) (n : Nat), ws.length ≤ n → (∀ i ≤ n, f i ∈ ws) → ∃ i j, i < j ∧ j ≤ n ∧ f i = f j := fun f n hl hf => by
  apply Classical.byContradiction
  intro no
  have nd : ((List.range (n + 1)).map f).Nodup := by
    rw [List.nodup_iff_pairwise_ne, List.pairwise_map]
    refine List.Pairwise.imp_of_mem ?_ List.pairwise_lt_range
    intro a b ha hb hab e
    exact no ⟨a, b, hab, by have := List.mem_range.mp hb; omega, e⟩
  have len : ∀ (L M : List Str), L.Nodup → (∀ x ∈ L, x ∈ M) → L.length ≤ M.length := fun L => by
    induction L with
    | nil => intro M _ _; exact Nat.zero_le _
    | cons x L ih =>
      intro M hn h
      rw [List.nodup_cons] at hn
      have hx := h x (by simp)
      have := ih (M.erase x) hn.2 fun y hy => (List.mem_erase_of_ne (fun (e : y = x) => hn.1 (by rw [← e]; exact hy))).mpr (h y (by simp [hy]))
      rw [List.length_erase_of_mem hx] at this
      have := List.length_pos_of_mem hx
      rw [List.length_cons]; omega
  have := len _ ws nd fun x hx => by
    obtain ⟨i, hi, rfl⟩ := List.mem_map.mp hx
    exact hf i (by have := List.mem_range.mp hi; omega)
  rw [List.length_map, List.length_range] at this
  omega
theorem least_ex {P : Nat → Prop} (h : ∃ n, P n) : ∃ n, P n ∧ ∀ m < n, ¬ P m := by
  apply Classical.byContradiction
  intro no
  have key : ∀ n, ∀ m ≤ n, ¬ P m := fun n => by
    induction n with
    | zero =>
      intro m hm hp
      have e : m = 0 := by omega
      subst e
      exact no ⟨0, hp, fun m hm => absurd hm (by omega)⟩
    | succ n ih =>
      intro m hm hp
      rcases Nat.lt_or_ge m (n + 1) with h1 | h1
      · exact ih m (by omega) hp
      · have e : m = n + 1 := by omega
        subst e
        exact no ⟨n + 1, hp, fun m hm => ih m (by omega)⟩
  obtain ⟨n, hn⟩ := h
  exact key n n (Nat.le_refl _) hn
/-- far along the causes from a table that was lowered too late one is on a round -/
theorem on_round {ws : List Str} (H : LwI tg c L k D low cs u) (hL : ∀ x ∈ L, x.1 ∈ ws) {w : Str} (hu : ws.length + 1 ≤ u w) :
    ∃ q, 1 ≤ q ∧ q ≤ ws.length ∧ itF tg cs q (itF tg cs ws.length w) = itF tg cs ws.length w ∧ (∀ m, 1 ≤ m → m < q → itF tg cs m (itF tg cs ws.length w) ≠ itF tg cs ws.length w) ∧ (∀ i, ∃ x, cs (itF tg cs i (itF tg cs ws.length w)) = some x) ∧ ∀ i ≤ ws.length, ∃ x, cs (itF tg cs i w) = some x := by
  have some_ : ∀ i ≤ ws.length, ∃ x, cs (itF tg cs i w) = some x := fun i hi => H.has _ (by have := it_u H (w := w) i; omega)
  obtain ⟨i, j, hij, hj, e⟩ := pigeon (ws := ws) (fun i => itF tg cs i w) ws.length (Nat.le_refl _) fun i hi => by
    obtain ⟨x, hx⟩ := some_ i hi
    have := H.mem _ x hx
    show itF tg cs i w ∈ ws
    rw [← this.2.1]; exact hL x this.1
  have e : itF tg cs i w = itF tg cs j w := e
  have per : itF tg cs (j - i) (itF tg cs ws.length w) = itF tg cs ws.length w := by
    rw [← itF_add, show j - i + ws.length = (ws.length - i) + j - 0 by omega, Nat.sub_zero, itF_add, ← e, ← itF_add, show ws.length - i + i = ws.length by omega]
  have exq : ∃ q, 1 ≤ q ∧ itF tg cs q (itF tg cs ws.length w) = itF tg cs ws.length w := ⟨j - i, by omega, per⟩
  obtain ⟨q, mn, mi⟩ := least_ex exq
  have mle : q ≤ j - i := by
    rcases Nat.lt_or_ge (j - i) q with z | z
    · exact absurd ⟨by omega, per⟩ (mi _ z)
    · exact z
  refine ⟨q, mn.1, by omega, mn.2, fun m h1 h2 z => mi m h2 ⟨h1, z⟩, fun m => ?_, some_⟩
  -- every cell on the round is one of the first ones
  have perm : ∀ t, itF tg cs (t * (j - i)) (itF tg cs ws.length w) = itF tg cs ws.length w := fun t => by
    induction t with
    | zero => rw [Nat.zero_mul]; rfl
    | succ t ih => rw [Nat.succ_mul, itF_add, per, ih]
  have red : itF tg cs m (itF tg cs ws.length w) = itF tg cs (m % (j - i)) (itF tg cs ws.length w) := by
    have e2 : m = m % (j - i) + (m / (j - i)) * (j - i) := by rw [Nat.mul_comm]; exact (Nat.mod_add_div m (j - i)).symm
    conv => lhs; rw [e2]
    rw [itF_add, perm]
  have ml := Nat.mod_lt m (show 0 < j - i by omega)
  rw [red]
  -- m % (j - i) + length - (j - i) lies within
  have back : itF tg cs ws.length w = itF tg cs (ws.length - (j - i)) w := by
    rw [show itF tg cs (ws.length - (j - i)) w = itF tg cs (ws.length - j + i) w by congr 1; omega, itF_add, e, ← itF_add, show ws.length - j + j = ws.length by omega]
  rw [back, ← itF_add]
  exact some_ _ (by omega)
end

/-! ### a round with a sum below 0, found among the simple rounds -/
theorem str_tri (a b : Str) : a.cps.toList < b.cps.toList ∨ a = b ∨ b.cps.toList < a.cps.toList := by
  by_cases h1 : a.cps.toList < b.cps.toList
  · exact .inl h1
  · by_cases h2 : b.cps.toList < a.cps.toList
    · exact .inr (.inr h2)
    · exact .inr (.inl (str_le h2 h1))
theorem min_str : ∀ {l : List (Str × Int)}, l ≠ [] → ∃ x ∈ l, ∀ y ∈ l, ¬ y.1.cps.toList < x.1.cps.toList
  | [], h => absurd rfl h
  | [x], _ => ⟨x, by simp, fun y hy => by rw [List.mem_singleton.mp hy]; exact List.lt_irrefl _⟩
  | x :: z :: l, _ => by
    obtain ⟨m, hm, hl⟩ := min_str (l := z :: l) (by simp)
    by_cases h : x.1.cps.toList < m.1.cps.toList
    · refine ⟨x, by simp, fun y hy => ?_⟩
      rcases List.mem_cons.mp hy with rfl | hy
      · exact List.lt_irrefl _
      · exact fun h2 => hl y hy (List.lt_trans h2 h)
    · refine ⟨m, by simp [hm], fun y hy => ?_⟩
      rcases List.mem_cons.mp hy with rfl | hy
      · exact h
      · exact hl y hy
section
variable {rs : List Row} {c : Str × Int → Int}
/-- a closed walk with a sum below 0 has a simple one -/
theorem neg_simple : ∀ (n : Nat) {W : List (Str × Int)} {y : Str}, W.length ≤ n → W ≠ [] → isPath (fun x : Str × Int => x.1) (tgI rs) y W y → (W.map c).sum < 0 → ∃ V z, V ≠ [] ∧ (∀ x ∈ V, x ∈ W) ∧ isPath (fun x : Str × Int => x.1) (tgI rs) z V z ∧ (V.map c).sum < 0 ∧ (V.map (·.1)).Nodup
  | 0, W, y, hl, hne, _, _ => absurd (List.length_eq_zero_iff.mp (by omega)) hne
  | n + 1, W, y, hl, hne, hp, hs => by
    by_cases hn : (W.map (·.1)).Nodup
    · exact ⟨W, y, hne, fun _ h => h, hp, hs, hn⟩
    · -- a table stands twice
      obtain ⟨P1, x, P2, x', P3, rfl, e⟩ : ∃ P1 x P2 x' P3, W = P1 ++ x :: (P2 ++ x' :: P3) ∧ x.1 = x'.1 := by
        clear hl hne hp hs
        induction W with
        | nil => exact absurd List.nodup_nil hn
        | cons x W ih =>
          rw [List.map_cons, List.nodup_cons] at hn
          by_cases h : x.1 ∈ W.map (·.1)
          · obtain ⟨x', hx', e⟩ := List.mem_map.mp h
            obtain ⟨P2, P3, rfl⟩ := List.append_of_mem hx'
            exact ⟨[], x, P2, x', P3, rfl, e.symm⟩
          · obtain ⟨P1, z, P2, z', P3, rfl, e⟩ := ih fun h2 => hn ⟨h, h2⟩
            exact ⟨x :: P1, z, P2, z', P3, rfl, e⟩
      obtain ⟨t, p1, p2⟩ := path_split hp
      have ht : x.1 = t := p2.1
      obtain ⟨u, p3, p4⟩ := path_split p2.2
      have hu : x'.1 = u := p4.1
      have q1 : isPath (fun x : Str × Int => x.1) (tgI rs) x.1 (x :: P2) x.1 := ⟨rfl, by rw [e, hu]; exact p3⟩
      have q2 : isPath (fun x : Str × Int => x.1) (tgI rs) y (P1 ++ x' :: P3) y := path_cat p1 ⟨by show x'.1 = t; rw [← e]; exact ht, p4.2⟩
      have sm : ((P1 ++ x :: (P2 ++ x' :: P3)).map c).sum = ((x :: P2).map c).sum + ((P1 ++ x' :: P3).map c).sum := by
        simp only [List.map_append, List.map_cons, List.sum_append, List.sum_cons]; omega
      rw [sm] at hs
      simp only [List.length_append, List.length_cons] at hl
      by_cases h1 : ((x :: P2).map c).sum < 0
      · obtain ⟨V, z, v1, v2, v3, v4, v5⟩ := neg_simple n (W := x :: P2) (by simp only [List.length_cons]; omega) (by simp) q1 h1
        refine ⟨V, z, v1, fun w hw => ?_, v3, v4, v5⟩
        have := v2 w hw
        simp only [List.mem_cons, List.mem_append] at this ⊢
        rcases this with h | h <;> simp [h]
      · obtain ⟨V, z, v1, v2, v3, v4, v5⟩ := neg_simple n (W := P1 ++ x' :: P3) (by simp only [List.length_append, List.length_cons]; omega) (by simp) q2 (by omega)
        refine ⟨V, z, v1, fun w hw => ?_, v3, v4, v5⟩
        have := v2 w hw
        simp only [List.mem_cons, List.mem_append] at this ⊢
        rcases this with h | h | h <;> simp [h]
theorem path_ch {V : List (Str × Int)} : ∀ {a b : Str}, isPath (fun x : Str × Int => x.1) (tgI rs) a V b → (∀ (i : Nat) x y, V[i]? = some x → V[i + 1]? = some y → tgI rs x = y.1) ∧ (∀ x, V.getLast? = some x → tgI rs x = b) ∧ ∀ x, V.head? = some x → x.1 = a := by
  induction V with
  | nil => intro a b _; exact ⟨fun i x y h => by simp at h, fun x h => by simp at h, fun x h => by simp at h⟩
  | cons z V ih =>
    intro a b h
    obtain ⟨i1, i2, i3⟩ := ih h.2
    refine ⟨fun i x y hx hy => ?_, fun x hx => ?_, fun x hx => by cases hx; exact h.1⟩
    · cases i with
      | zero =>
        have hx : z = x := by simpa using hx
        subst hx
        have : V.head? = some y := by rw [← hy]; cases V <;> rfl
        exact (i3 y this).symm
      | succ i => exact i1 i x y (by simpa using hx) (by simpa using hy)
    · cases V with
      | nil =>
        have hx : z = x := by simpa using hx
        subst hx
        exact h.2
      | cons w V => exact i2 x (by rw [← hx]; rfl)
/-- the simple round, begun at its least table, is a round that the law finds -/
theorem simple_rd (hn : (rs.map (·.w)).Nodup) {V : List (Str × Int)} {z : Str} (h0 : V ≠ []) (hr : ∀ x ∈ V, x ∈ rdI rs) (hp : isPath (fun x : Str × Int => x.1) (tgI rs) z V z) (nd : (V.map (·.1)).Nodup) :
    ∃ t r, RdZ (rdT rs) t r ∧ (r.map (·.1)).Perm V ∧ ∀ y ∈ r, y = (y.1, rdOf rs y.1) := by
  obtain ⟨x, hx, hmin⟩ := min_str h0
  obtain ⟨P1, P2, rfl⟩ := List.append_of_mem hx
  obtain ⟨t, p1, p2⟩ := path_split hp
  have ht : x.1 = t := p2.1
  have cl : isPath (fun x : Str × Int => x.1) (tgI rs) x.1 ((x :: P2) ++ P1) x.1 := path_cat (t := z) ⟨rfl, p2.2⟩ (by rw [ht]; exact p1)
  have pm : ((x :: P2) ++ P1).Perm (P1 ++ x :: P2) := List.perm_append_comm
  have ch := path_ch cl
  have inT : ∀ y ∈ rdI rs, (y, rdOf rs y) ∈ rdT rs := fun y hy => by
    have hy2 := hy
    rw [← rdT_fst] at hy2
    obtain ⟨w, hw, e⟩ := List.mem_map.mp hy2
    have := (rdT_at hn hw).2
    have e3 : w = (y, rdOf rs y) := Prod.ext e (by rw [← this, e])
    rw [← e3]; exact hw
  refine ⟨x.1, ((x :: P2) ++ P1).map fun y => (y, rdOf rs y), ?_, by rw [List.map_map, show ((fun w : Zr => w.1) ∘ fun y : Str × Int => (y, rdOf rs y)) = id from rfl, List.map_id]; exact pm, fun y hy => by obtain ⟨w, _, rfl⟩ := List.mem_map.mp hy; rfl⟩
  have em : (((x :: P2) ++ P1).map fun y => (y, rdOf rs y)).map zS = ((x :: P2) ++ P1).map (·.1) := by rw [List.map_map]; rfl
  have nd2 : (((x :: P2) ++ P1).map (·.1)).Nodup := (pm.map (·.1)).nodup_iff.mpr nd
  refine { ne := by simp, mem := fun y hy => ?_, hd := fun y hy => ?_, ch := fun i a b ha hb => ?_, gt := fun y hy => ?_, nd := by rw [em]; exact nd2, cl := fun y hy => ?_ }
  · obtain ⟨w, hw, rfl⟩ := List.mem_map.mp hy
    exact inT w (hr w (pm.mem_iff.mp hw))
  · cases hy; rfl
  · rw [List.getElem?_map] at ha hb
    cases h1 : ((x :: P2) ++ P1)[i]? with
    | none => rw [h1] at ha; cases ha
    | some u =>
      cases h2 : ((x :: P2) ++ P1)[i + 1]? with
      | none => rw [h2] at hb; cases hb
      | some w =>
        rw [h1] at ha; rw [h2] at hb
        cases ha; cases hb
        exact ch.1 i u w h1 h2
  · rw [show (((x :: P2) ++ P1).map fun y => (y, rdOf rs y)).drop 1 = (P2 ++ P1).map fun y => (y, rdOf rs y) from rfl] at hy
    obtain ⟨w, hw, rfl⟩ := List.mem_map.mp hy
    show x.1.cps.toList < w.1.cps.toList
    have hw2 : w ∈ P1 ++ x :: P2 := pm.mem_iff.mp (by rw [List.cons_append]; exact List.mem_cons_of_mem _ hw)
    have ne : x.1 ≠ w.1 := fun e => by
      rw [List.cons_append, List.map_cons] at nd2
      exact (List.nodup_cons.mp nd2).1 (by rw [e]; exact List.mem_map.mpr ⟨w, hw, rfl⟩)
    rcases str_tri x.1 w.1 with h | h | h
    · exact h
    · exact absurd h ne
    · exact absurd h (hmin w hw2)
  · rw [List.getLast?_map] at hy
    cases h1 : ((x :: P2) ++ P1).getLast? with
    | none => rw [h1] at hy; cases hy
    | some u =>
      rw [h1] at hy
      cases hy
      exact ch.2.1 u h1
/-- a round that the law finds is a closed walk -/
theorem rd_path (hn : (rs.map (·.w)).Nodup) {t : Str} {r : List Zr} (R : RdZ (rdT rs) t r) : (∀ y ∈ r, y = (y.1, rdOf rs y.1)) ∧ (∀ x ∈ r.map (·.1), x ∈ rdI rs) ∧ isPath (fun x : Str × Int => x.1) (tgI rs) t (r.map (·.1)) t := by
  have kn : ∀ y ∈ r, y = (y.1, rdOf rs y.1) ∧ y.1 ∈ rdI rs := fun y hy => by
    obtain ⟨h1, h2⟩ := rdT_at hn (R.mem y hy)
    exact ⟨Prod.ext rfl h2.symm, h1⟩
  refine ⟨fun y hy => (kn y hy).1, fun x hx => by obtain ⟨y, hy, rfl⟩ := List.mem_map.mp hx; exact (kn y hy).2, ?_⟩
  have key : ∀ (l : List Zr) (a : Str), (∀ y ∈ l, y = (y.1, rdOf rs y.1)) → (∀ z, l.head? = some z → zS z = a) → (∀ (i : Nat) x y, l[i]? = some x → l[i + 1]? = some y → zT x = zS y) → ∀ b, (l = [] → a = b) → (∀ z, l.getLast? = some z → zT z = b) → isPath (fun x : Str × Int => x.1) (tgI rs) a (l.map (·.1)) b := fun l => by
    induction l with
    | nil => intro a _ _ _ b h _; exact h rfl
    | cons y l ih =>
      intro a hk hh hc b _ hb
      have e := hk y (by simp)
      have tg : tgI rs y.1 = zT y := by
        unfold tgI zT
        rw [e]
      refine ⟨hh y rfl, ?_⟩
      dsimp only
      rw [tg]
      refine ih _ (fun z hz => hk z (by simp [hz])) (fun z hz => ?_) (fun i u w hu hw => hc (i + 1) u w (by simpa using hu) (by simpa using hw)) b (fun h => ?_) fun z hz => ?_
      · refine (hc 0 y z rfl ?_).symm
        rw [← hz]; cases l <;> rfl
      · subst h; exact hb y rfl
      · refine hb z ?_
        cases l with
        | nil => cases hz
        | cons w l => rw [← hz]; rfl
  exact key r t (fun y hy => (kn y hy).1) R.hd R.ch t (fun h => absurd h R.ne) R.cl
end

/-! ### Lowering: least sums in one coordinate -/
section
variable {β : Type}
def asK (enc : β → EV) (L : List (Str × β)) : List (Key × EV) := L.map fun p => (.inr p.1, enc p.2)
def putA (L : List (Str × β)) (w : Str) (v : β) : List (Str × β) := if (L.any fun p => decide (p.1 = w)) = true then L.map (fun p => if p.1 = w then (p.1, v) else p) else L ++ [(w, v)]
def getA : List (Str × β) → Str → Option β
  | [], _ => none
  | (z, v) :: L, w => if z = w then some v else getA L w
theorem any_asK (enc : β → EV) (L : List (Str × β)) (w : Str) : ((asK enc L).any fun kv => decide (kv.1 = (Sum.inr w : Key))) = L.any fun p => decide (p.1 = w) := by
  unfold asK
  rw [List.any_map]
  congr 1
  funext x
  show decide ((Sum.inr x.1 : Key) = .inr w) = _
  by_cases h : x.1 = w
  · subst h; simp
  · rw [decide_eq_false h, decide_eq_false fun z => h (Sum.inr.inj z)]
theorem putA_K (enc : β → EV) (L : List (Str × β)) (w : Str) (v : β) : putKE (asK enc L) (.inr w) (enc v) = asK enc (putA L w v) := by
  unfold putKE putA
  rw [any_asK]
  by_cases h : (L.any fun p => decide (p.1 = w)) = true
  · rw [if_pos h, if_pos h]
    unfold asK
    rw [List.map_map, List.map_map]
    refine List.map_congr_left fun x _ => ?_
    simp only [Function.comp]
    by_cases e : x.1 = w
    · subst e; simp
    · rw [if_neg (fun z => e (Sum.inr.inj z)), if_neg e]
  · rw [if_neg h, if_neg h]
    unfold asK
    rw [List.map_append]; rfl
theorem getA_K (enc : β → EV) : ∀ (L : List (Str × β)) (w : Str), getK (asK enc L) (.inr w) = (getA L w).map enc
  | [], _ => rfl
  | (z, v) :: L, w => by
    show getK ((.inr z, enc v) :: asK enc L) (.inr w) = (if z = w then some v else getA L w).map enc
    unfold getK
    by_cases h : z = w
    · subst h; simp
    · rw [if_neg (fun t => h (Sum.inr.inj t)), if_neg h]
      exact getA_K enc L w
theorem getA_any {L : List (Str × β)} {w : Str} : (L.any fun p => decide (p.1 = w)) = true ↔ ∃ v, getA L w = some v := by
  induction L with
  | nil => simp [getA]
  | cons p L ih =>
    obtain ⟨z, v⟩ := p
    rw [List.any_cons, Bool.or_eq_true, ih]
    show decide (z = w) = true ∨ _ ↔ ∃ v', (if z = w then some v else getA L w) = some v'
    by_cases h : z = w
    · simp [h]
    · simp [h]
theorem getA_app {L : List (Str × β)} {w z : Str} {v : β} (h : ¬ ∃ v, getA L w = some v) : getA (L ++ [(w, v)]) z = updF (getA L) w (some v) z := by
  unfold updF
  induction L with
  | nil =>
    show (if w = z then some v else none) = _
    by_cases e : z = w
    · rw [if_pos e, if_pos e.symm]
    · rw [if_neg e, if_neg (Ne.symm e)]; rfl
  | cons p L ih =>
    obtain ⟨y, u⟩ := p
    have hy : y ≠ w := fun e => h ⟨u, by show (if y = w then some u else getA L w) = some u; rw [if_pos e]⟩
    have ih := ih fun ⟨t, ht⟩ => h ⟨t, by show (if y = w then some u else getA L w) = some t; rw [if_neg hy]; exact ht⟩
    show (if y = z then some u else getA (L ++ [(w, v)]) z) = if z = w then some v else (if y = z then some u else getA L z)
    rw [ih]
    by_cases e : y = z
    · have : z ≠ w := e ▸ hy
      rw [if_pos e, if_neg this, if_pos e]
    · rw [if_neg e, if_neg e]
theorem getA_map {L : List (Str × β)} {w z : Str} {v : β} (h : ∃ v, getA L w = some v) : getA (L.map fun p => if p.1 = w then (p.1, v) else p) z = updF (getA L) w (some v) z := by
  unfold updF
  have key : ∀ L : List (Str × β), (z ≠ w → getA (L.map fun p => if p.1 = w then (p.1, v) else p) z = getA L z) ∧ (z = w → (∃ v, getA L w = some v) → getA (L.map fun p => if p.1 = w then (p.1, v) else p) z = some v) := fun L => by
    induction L with
    | nil => exact ⟨fun _ => rfl, fun _ h => by obtain ⟨_, h⟩ := h; cases h⟩
    | cons p L ih =>
      obtain ⟨y, u⟩ := p
      rw [List.map_cons]
      constructor
      · intro hz
        by_cases e : y = w
        · have hyz : y ≠ z := fun t => hz (t ▸ e)
          rw [if_pos e]
          show (if y = z then some v else getA _ z) = if y = z then some u else getA L z
          rw [if_neg hyz, if_neg hyz]; exact ih.1 hz
        · rw [if_neg e]
          show (if y = z then some u else getA _ z) = if y = z then some u else getA L z
          rw [ih.1 hz]
      · intro hz hx
        subst hz
        by_cases e : y = z
        · rw [if_pos e]
          show (if y = z then some v else getA _ z) = some v
          rw [if_pos e]
        · rw [if_neg e]
          show (if y = z then some u else getA _ z) = some v
          rw [if_neg e]
          refine ih.2 rfl ?_
          obtain ⟨t, ht⟩ := hx
          have ht : (if y = z then some u else getA L z) = some t := ht
          rw [if_neg e] at ht
          exact ⟨t, ht⟩
  by_cases e : z = w
  · rw [if_pos e]; exact (key L).2 e h
  · rw [if_neg e]; exact (key L).1 e
theorem getA_put (L : List (Str × β)) (w : Str) (v : β) : getA (putA L w v) = updF (getA L) w (some v) := by
  funext z
  unfold putA
  by_cases h : (L.any fun p => decide (p.1 = w)) = true
  · rw [if_pos h]; exact getA_map (getA_any.mp h)
  · rw [if_neg h]; exact getA_app fun x => h (getA_any.mpr x)
theorem putA_len (L : List (Str × β)) (w : Str) (v : β) : (putA L w v).length ≤ L.length + 1 := by
  unfold putA
  split <;> simp
def fnL (ws : List Str) (f : Str → β) : List (Str × β) := ws.map fun w => (w, f w)
theorem put_fnL {ws : List Str} {f : Str → β} {w : Str} {v : β} (h : w ∈ ws) : putA (fnL ws f) w v = fnL ws (updF f w v) := by
  unfold putA fnL
  rw [if_pos (by rw [List.any_map]; exact List.any_eq_true.mpr ⟨w, h, by simp⟩), List.map_map]
  refine List.map_congr_left fun z _ => ?_
  simp only [Function.comp]
  unfold updF
  by_cases e : z = w
  · rw [if_pos e, if_pos e]
  · rw [if_neg e, if_neg e]
theorem get_fnL {ws : List Str} {f : Str → β} {w : Str} (h : w ∈ ws) : getA (fnL ws f) w = some (f w) := by
  induction ws with
  | nil => cases h
  | cons z ws ih =>
    show (if z = w then some (f z) else getA (fnL ws f) w) = _
    by_cases e : z = w
    · rw [if_pos e, e]
    · rw [if_neg e]
      rcases List.mem_cons.mp h with h | h
      · exact absurd h.symm e
      · exact ih h
theorem fz_asK {S : Addr → Bool} {eh : Eh} {k n : Nat} {enc : β → EV} (h : ∀ v, okB n (enc v) = true) (L : List (Str × β)) : (asK enc L).map (fun p => (p.1, fz S eh k p.2)) = asK enc L := by
  unfold asK
  rw [List.map_map]
  refine List.map_congr_left fun x _ => ?_
  simp only [Function.comp, fz_okB (h x.2)]
end
theorem lenD_i {x : EV} {kvs : List (Key × EV)} {eh : Eh} {q : KE} (e : dctE eh x = some kvs) (h : q (.int kvs.length) eh) : bLen [x] eh q := by
  unfold bLen
  cases x <;> first | exact .inr ⟨_, e, h⟩ | (simp [dctE] at e)
def lateE : Option Str → EV
  | none => .non
  | some w => .str w
def lwE (ws : List Str) (low : Str → Int) (L : List (Str × (Str × Int))) (late : Option Str) : EV := .obj "Lowering" [("lows", .dct (asK .int (fnL ws low))), ("causes", .dct (asK nI L)), ("late", lateE late)]
/-- what a Lowering tells -/
structure LwOk (rs : List Row) (a : Nat) (low : Str → Int) (L : List (Str × (Str × Int))) (late : Option Str) : Prop where
  i : ∃ u, LwI (tgI rs) (fun x => (vcI rs x).getD a 0) (rdI rs) (rs.length + 1) (rdI rs) low (getA L) u ∧ (late = none → ∀ w, u w < rs.length + 1) ∧ ∀ w, late = some w → u w = rs.length + 1
structure LwH (eh0 eh : Eh) (p l cc : Addr) (ws : List Str) (low : Str → Int) (L : List (Str × (Str × Int))) (late : Option Str) : Prop where
  hp : eh p = some (.ins "Lowering" [("lows", .ref l), ("causes", .ref cc), ("late", lateE late)])
  hl : eh l = some (.dct (asK .int (fnL ws low)))
  hc : eh cc = some (.dct (asK nI L))
  pl : p ≠ l
  pc : p ≠ cc
  lc : l ≠ cc
  p0 : eh0 p = none
  l0 : eh0 l = none
  c0 : eh0 cc = none
  kp : Kp eh0 eh
theorem LwH.late {eh0 eh : Eh} {p l cc : Addr} {ws : List Str} {low : Str → Int} {L : List (Str × (Str × Int))} {late late' : Option Str} (H : LwH eh0 eh p l cc ws low L late) : LwH eh0 (eupd eh p (some (.ins "Lowering" [("lows", .ref l), ("causes", .ref cc), ("late", lateE late')]))) p l cc ws low L late' :=
  ⟨eupd_same, by rw [eupd_ne H.pl.symm]; exact H.hl, by rw [eupd_ne H.pc.symm]; exact H.hc, H.pl, H.pc, H.lc, H.p0, H.l0, H.c0, H.kp.set H.p0⟩
theorem LwH.low {eh0 eh : Eh} {p l cc : Addr} {ws : List Str} {low low' : Str → Int} {L : List (Str × (Str × Int))} {late : Option Str} (H : LwH eh0 eh p l cc ws low L late) : LwH eh0 (eupd eh l (some (.dct (asK .int (fnL ws low'))))) p l cc ws low' L late :=
  ⟨by rw [eupd_ne H.pl]; exact H.hp, eupd_same, by rw [eupd_ne H.lc.symm]; exact H.hc, H.pl, H.pc, H.lc, H.p0, H.l0, H.c0, H.kp.set H.l0⟩
theorem LwH.cau {eh0 eh : Eh} {p l cc : Addr} {ws : List Str} {low : Str → Int} {L L' : List (Str × (Str × Int))} {late : Option Str} (H : LwH eh0 eh p l cc ws low L late) : LwH eh0 (eupd eh cc (some (.dct (asK nI L')))) p l cc ws low L' late :=
  ⟨by rw [eupd_ne H.pc]; exact H.hp, by rw [eupd_ne H.lc]; exact H.hl, eupd_same, H.pl, H.pc, H.lc, H.p0, H.l0, H.c0, H.kp.set H.c0⟩
theorem LwH.fin {eh0 eh : Eh} {p l cc : Addr} {ws : List Str} {low : Str → Int} {L : List (Str × (Str × Int))} {late : Option Str} (H : LwH eh0 eh p l cc ws low L late) : fz (nw eh0) eh 9 (.ref p) = lwE ws low L late ∧ drE (nw eh0) eh = eh0 := by
  refine ⟨?_, H.kp.dr⟩
  have e1 : fz (nw eh0) eh 8 (.ref l) = .dct (asK .int (fnL ws low)) := by rw [fz_dct (k := 7) (by simp [nw, H.l0]) H.hl, fz_asK (n := 0) fun _ => rfl]
  have e2 : fz (nw eh0) eh 8 (.ref cc) = .dct (asK nI L) := by rw [fz_dct (k := 7) (by simp [nw, H.c0]) H.hc, fz_asK (n := 1) fun x => okB_of (okD_nI x)]
  have e3 : fz (nw eh0) eh 8 (lateE late) = lateE late := by cases late <;> rfl
  rw [fz_ins (k := 8) (by simp [nw, H.p0]) H.hp]
  show EV.obj "Lowering" [("lows", fz (nw eh0) eh 8 (.ref l)), ("causes", fz (nw eh0) eh 8 (.ref cc)), ("late", fz (nw eh0) eh 8 (lateE late))] = _
  rw [e1, e2, e3]; rfl
theorem low_mz {S : Addr → Bool} {xc : XC} {dims md : Int} {rs : List Row} {a : Nat} {eh : Eh} {q : KE} (hS : S = nw eh) (h : SysFit dims md rs) (ha : a < dims.toNat)
    (k_ : ∀ low L late, LwOk rs a low L late → q (lwE (rs.map (·.w)) low L late) eh) :
    ([sysE dims md rs, .int (a : Nat)] ++ []).length + 1 = 3 ∧ MZ S "Lowering" fn_Lowering_init xc ([sysE dims md rs, .int (a : Nat)] ++ []) eh q := by
  refine ⟨rfl, ?_⟩
  subst hS
  have hd := h.d
  have rl : (rdI rs).length ≤ 12 := by rw [rdI_len]; exact h.t
  have r6 : rs.length ≤ 6 := h.l.2
  have hin : ∀ x ∈ rdI rs, x.1 ∈ rs.map (·.w) ∧ tgI rs x ∈ rs.map (·.w) := fun x hx => by
    obtain ⟨r, hr, i, e, hy⟩ := rdI_of h.nd hx
    exact ⟨by rw [e]; exact List.mem_map.mpr ⟨r, hr, rfl⟩, h.tg r hr _ (List.mem_of_getElem? hy)⟩
  intro p hp
  unfold fn_Lowering_init ms_Lowering_init
  walk_at "go"
  refine dcomp_s ?_
  refine any_i ?_
  refine fzp_i ?_
  walk_at "go"
  refine ⟨_, rfl, rfl, ?_⟩
  refine names_fz rfl ?_
  refine ⟨_, _, rfl, ?_⟩
  intro l hl
  have lp : l ≠ p := fun z => by rw [z, eupd_same] at hl; cases hl
  have l0 : eh l = none := by rw [eupd_ne lp] at hl; exact hl
  rw [show (rs.map fun r => EV.str r.w) = (rs.map (·.w)).map .str by rw [List.map_map]; rfl]
  refine dc_fold (c := EV.str) (kf := EV.str) (vf := fun _ => .int 0) (ky := Sum.inr) (fun _ => rfl) (fun _ => trivial) (fun w hw => ⟨_, rfl, fun o q1 => ⟨fun hq => ?_, fun hq => ?_⟩⟩) (by simp; omega) ?_
  · walk_at "go"
    exact hq
  · walk_at "go"
    exact hq
  rw [fold_put (by rw [List.map_nil, List.nil_append]; exact inr_nodup h.nd), List.nil_append]
  have e0 : (rs.map (·.w)).map (fun w => ((Sum.inr w : Key), EV.int 0)) = asK .int (fnL (rs.map (·.w)) fun _ => (0 : Int)) := by unfold asK fnL; simp only [List.map_map]; rfl
  rw [e0]
  walk_at "go"
  have e1 : ∀ v, putE "lows" v [] = ([("lows", v)] : List (Str × EV)) := fun _ => by rfl
  refine ⟨p, [], rfl, by rw [eupd_ne (Ne.symm lp), eupd_same], by simp, ?_⟩
  rw [e1]
  walk_at "go"
  intro cc hcc
  have cp : cc ≠ p := fun z => by rw [z, eupd_same] at hcc; cases hcc
  have cl : cc ≠ l := fun z => by rw [z, eupd_ne lp, eupd_same] at hcc; cases hcc
  have c0 : eh cc = none := by rw [eupd_ne cp, eupd_ne cl, eupd_ne cp] at hcc; exact hcc
  walk_at "go"
  have e2 : ∀ v w, putE "causes" w [("lows", v)] = ([("lows", v), ("causes", w)] : List (Str × EV)) := fun _ _ => by rfl
  refine ⟨p, [("lows", .ref l)], rfl, by rw [eupd_ne (Ne.symm cp), eupd_same], by simp, ?_⟩
  rw [e2]
  walk_at "go"
  have e3 : ∀ v w u, putE "late" u [("lows", v), ("causes", w)] = ([("lows", v), ("causes", w), ("late", u)] : List (Str × EV)) := fun _ _ _ => by rfl
  refine ⟨p, [("lows", .ref l), ("causes", .ref cc)], rfl, eupd_same, by simp, ?_⟩
  rw [e3]
  have H0 : LwH eh (eupd (eupd (eupd (eupd (eupd (eupd eh p (some (.ins "Lowering" []))) l (some (.dct (asK .int (fnL (rs.map (·.w)) fun _ => (0 : Int)))))) p (some (.ins "Lowering" [("lows", .ref l)]))) cc (some (.dct []))) p (some (.ins "Lowering" [("lows", .ref l), ("causes", .ref cc)]))) p (some (.ins "Lowering" [("lows", .ref l), ("causes", .ref cc), ("late", .non)]))) p l cc (rs.map (·.w)) (fun _ => 0) [] none :=
    ⟨eupd_same, by rw [eupd_ne lp, eupd_ne lp, eupd_ne (Ne.symm cl), eupd_ne lp, eupd_same], by rw [eupd_ne cp, eupd_ne cp, eupd_same]; rfl, Ne.symm lp, Ne.symm cp, Ne.symm cl, hp, l0, c0, (((((Kp.new hp).set l0).set hp).set c0).set hp).set hp⟩
  generalize (eupd (eupd (eupd (eupd (eupd (eupd eh p (some (.ins "Lowering" []))) l (some (.dct (asK .int (fnL (rs.map (·.w)) fun _ => (0 : Int)))))) p (some (.ins "Lowering" [("lows", .ref l)]))) cc (some (.dct []))) p (some (.ins "Lowering" [("lows", .ref l), ("causes", .ref cc)]))) p (some (.ins "Lowering" [("lows", .ref l), ("causes", .ref cc), ("late", .non)]))) = eh1 at H0
  walk_at "go"
  refine ⟨_, .ref l, by simp only [insE, H0.hp]; rfl, rfl, ?_⟩
  walk_at "go"
  refine lenD_i (x := .ref l) (eh := eh1) (kvs := asK .int (fnL (rs.map (·.w)) fun _ => (0 : Int))) (by simp only [dctE, H0.hl]) ?_
  walk_at "go"
  have al : (asK EV.int (fnL (rs.map (·.w)) fun _ => (0 : Int))).length = rs.length := by unfold asK fnL; simp
  rw [al]
  refine ⟨_, rfl, by omega, ?_⟩
  rw [show (((rs.length : Nat) : Int) + 1).toNat = rs.length + 1 by omega]
  -- the passes
  refine for_inv (c := fun i : Nat => EV.int (i : Int)) (fun N es eh' => ∃ (k : Nat) (low : Str → Int) (L : List (Str × (Str × Int))) (u : Str → Nat) (late : Option Str) (z3 z4 z6 : Option EV), (N = (List.range (rs.length + 1)).drop k ∧ k ≤ rs.length + 1) ∧ LwH eh eh' p l cc (rs.map (·.w)) low L late ∧ LwI (tgI rs) (fun x => (vcI rs x).getD a 0) (rdI rs) (k + 1) [] low (getA L) u ∧
    L.length ≤ k * 12 ∧ (∀ w, u w ≤ k) ∧ (1 ≤ k → LwI (tgI rs) (fun x => (vcI rs x).getD a 0) (rdI rs) k (rdI rs) low (getA L) u ∧ (late = none → ∀ w, u w < k) ∧ ∀ w, late = some w → u w = k) ∧
    es = [some (.ref p), some (sysE dims md rs), some (.int (a : Nat)), z3, z4, none, z6]) ⟨0, fun _ => 0, [], fun _ => 0, none, _, _, _, ⟨rfl, by omega⟩, H0, .start _, by simp, by simp, fun z => absurd z (by omega), rfl⟩ ?_ ?_
  · rintro i N es eh' ⟨k, low, L, u, late, z3, z4, z6, ⟨eN, _⟩, H, I, hL, hu, _, rfl⟩
    have hk : k < rs.length + 1 := by
      rcases Nat.lt_or_ge k (rs.length + 1) with z | z
      · exact z
      · rw [List.drop_eq_nil_of_le (by simpa using z)] at eN; cases eN
    rw [drop_range hk] at eN
    obtain ⟨_, eN⟩ := List.cons.inj eN
    refine ⟨trivial, _, rfl, fun d' hrt hnx _ _ => ?_⟩
    unfold bd_Lowering_init_4
    walk_at "go"
    refine ⟨p, _, rfl, H.hp, by simp, ?_⟩
    have e4 : putE "late" EV.non [("lows", .ref l), ("causes", .ref cc), ("late", lateE late)] = ([("lows", .ref l), ("causes", .ref cc), ("late", lateE none)] : List (Str × EV)) := by rfl
    rw [e4]
    have H1 := H.late (late' := none)
    generalize eupd eh' p (some (.ins "Lowering" [("lows", .ref l), ("causes", .ref cc), ("late", lateE none)])) = eh2 at H1
    walk_at "go"
    refine ⟨_, .tup (namE rs), rfl, by rfl, ?_⟩
    rw [namE_rdI]
    walk_at "go"
    refine for_inv (c := nI) (fun R es eh' => ∃ (D : List (Str × Int)) (low : Str → Int) (L : List (Str × (Str × Int))) (u : Str → Nat) (late : Option Str) (z4 z6 : Option EV), D ++ R = rdI rs ∧ LwH eh eh' p l cc (rs.map (·.w)) low L late ∧ LwI (tgI rs) (fun x => (vcI rs x).getD a 0) (rdI rs) (k + 1) D low (getA L) u ∧
      L.length ≤ k * 12 + D.length ∧ (late = none → ∀ w, u w < k + 1) ∧ (∀ w, late = some w → u w = k + 1) ∧ es = [some (.ref p), some (sysE dims md rs), some (.int (a : Nat)), some (.int (i : Nat)), z4, none, z6]) ⟨[], low, L, u, none, _, _, rfl, H1, I, by simpa using hL, fun _ w => by have := hu w; omega, fun w z => (nomatch z), rfl⟩ ?_ ?_
    · rintro x R es eh3 ⟨D, low, L, u, late, z4, z6, eD, H, I, hL, hl1, hl2, rfl⟩
      have hx : x ∈ rdI rs := by rw [← eD]; simp
      have hv := (rdI_fit h hx).1
      obtain ⟨x1, x2⟩ := hin x hx
      have hDl : D.length ≤ 12 := by have := congrArg List.length eD; simp at this; omega
      have kk : k * 12 ≤ 6 * 12 + 12 := by
        have := Nat.mul_le_mul_right 12 (show k ≤ 6 by omega)
        omega
      refine ⟨trivial, _, rfl, fun d2 hrt2 hnx2 _ _ => ?_⟩
      unfold bd_Lowering_init_3
      walk_at "go"
      refine ⟨_, .ref l, by simp only [insE, H.hp]; rfl, rfl, ?_⟩
      walk_at "go"
      refine target_tz rfl h.nd hx ?_
      refine ixd_i (x := .ref l) (eh := eh3) (kvs := asK .int (fnL (rs.map (·.w)) low)) (k := .inr (tgI rs x)) (by simp only [dctE, H.hl]) rfl (z := .int (low (tgI rs x))) (by rw [getA_K, get_fnL x2]; rfl) ?_
      walk_at "go"
      refine vector_tz rfl h.nd hx ?_
      walk_at "go"
      refine ix_i (xs := (vcI rs x).map .int) (z := .int ((vcI rs x).getD a 0)) rfl (at_cells (show (vcI rs x)[a]? = some ((vcI rs x).getD a 0) by rw [List.getD_eq_getElem?_getD, List.getElem?_eq_getElem (by omega)]; rfl)) ?_
      walk_at "go"
      refine ⟨_, .ref l, by simp only [insE, H.hp]; rfl, rfl, ?_⟩
      walk_at "go"
      refine ix_i (xs := [.str x.1, .int x.2]) (z := .str x.1) rfl (by rfl) ?_
      refine ixd_i (x := .ref l) (eh := eh3) (kvs := asK .int (fnL (rs.map (·.w)) low)) (k := .inr x.1) (by simp only [dctE, H.hl]) rfl (z := .int (low x.1)) (by rw [getA_K, get_fnL x1]; rfl) ?_
      walk_at "go"
      by_cases hlow : low (tgI rs x) + (vcI rs x).getD a 0 < low x.1
      · rw [decide_eq_true hlow]
        walk_at "go"
        refine ⟨_, .ref l, by simp only [insE, H.hp]; rfl, rfl, ?_⟩
        walk_at "go"
        refine ix_i (xs := [.str x.1, .int x.2]) (z := .str x.1) rfl (by rfl) ?_
        refine ⟨l, _, .inr x.1, rfl, H.hl, rfl, szT (by unfold asK fnL; simp; omega), ?_⟩
        rw [putA_K, put_fnL x1]
        have H1 := H.low (low' := updF low x.1 (low (tgI rs x) + (vcI rs x).getD a 0))
        generalize eupd eh3 l (some (.dct (asK .int (fnL (rs.map (·.w)) (updF low x.1 (low (tgI rs x) + (vcI rs x).getD a 0)))))) = eh4 at H1
        walk_at "go"
        refine ⟨_, .ref cc, by simp only [insE, H1.hp]; rfl, rfl, ?_⟩
        walk_at "go"
        refine ix_i (xs := [.str x.1, .int x.2]) (z := .str x.1) rfl (by rfl) ?_
        refine ⟨cc, _, .inr x.1, rfl, H1.hc, rfl, szT (by unfold asK; rw [List.length_map]; omega), ?_⟩
        rw [putA_K]
        have H2 := H1.cau (L' := putA L x.1 x)
        generalize eupd eh4 cc (some (.dct (asK nI (putA L x.1 x)))) = eh5 at H2
        walk_at "go"
        refine ix_i (xs := [.str x.1, .int x.2]) (z := .str x.1) rfl (by rfl) ?_
        refine ⟨p, _, rfl, H2.hp, by simp, ?_⟩
        have e5 : putE "late" (EV.str x.1) [("lows", .ref l), ("causes", .ref cc), ("late", lateE late)] = ([("lows", .ref l), ("causes", .ref cc), ("late", lateE (some x.1))] : List (Str × EV)) := by rfl
        rw [e5]
        have H3 := H2.late (late' := some x.1)
        have pl := putA_len L x.1 x
        refine hnx2 _ _ ⟨D ++ [x], _, _, updF u x.1 (k + 1), some x.1, _, _, by simp [eD], H3, by rw [getA_put]; exact I.lower (by omega) hx hlow, by simp; omega, fun z => (nomatch z), fun w z => by rw [← Option.some.inj z, updF_same], rfl⟩
      · rw [decide_eq_false hlow]
        walk_at "go"
        exact hnx2 _ _ ⟨D ++ [x], low, L, u, late, _, _, by simp [eD], H, I.keep (by omega), by simp; omega, hl1, hl2, rfl⟩
    · rintro es eh3 ⟨D, low, L, u, late, z4, z6, eD, H, I, hL, hl1, hl2, rfl⟩
      rw [List.append_nil] at eD
      subst eD
      refine ⟨trivial, ?_⟩
      refine hnx _ _ ⟨k + 1, low, L, u, late, _, _, _, ⟨eN, by omega⟩, H, I.next, by omega, I.uk, fun _ => ⟨I, hl1, hl2⟩, rfl⟩
  · rintro es eh' ⟨k, low, L, u, late, z3, z4, z6, ⟨eN, hkl⟩, H, I, hL, hu, hfin, rfl⟩
    have hk : k = rs.length + 1 := by
      have h1 := congrArg List.length eN
      simp at h1
      omega
    subst hk
    obtain ⟨f1, f2, f3⟩ := hfin (by omega)
    refine ⟨trivial, rfl, ?_⟩
    obtain ⟨g1, g2⟩ := H.fin
    rw [g1, g2]
    exact k_ low L late ⟨u, f1, f2, f3⟩

/-! ### the told walk of a Lowering; barring walks -/
section
variable {rs : List Row} {a : Nat} {low : Str → Int} {L : List (Str × (Str × Int))}
theorem ntF_some {tg : Str × Int → Str} {cs : Str → Option (Str × Int)} {w : Str} {x : Str × Int} (h : cs w = some x) : ntF tg cs w = tg x := by unfold ntF; rw [h]
/-- lows that keep all reads in a coordinate -/
def LowsAt (rs : List Row) (a : Nat) : Prop := ∃ low : Str → Int, (∀ w, low w ≤ 0) ∧ ∀ x ∈ rdI rs, low x.1 ≤ low (tgI rs x) + (vcI rs x).getD a 0
theorem LwOk.lows (H : LwOk rs a low L none) : (∀ w, low w ≤ 0) ∧ ∀ x ∈ rdI rs, low x.1 ≤ low (tgI rs x) + (vcI rs x).getD a 0 := by
  obtain ⟨u, I, hn, _⟩ := H.i
  refine ⟨I.np, fun x hx => ?_⟩
  rcases I.dn x hx with z | z
  · exact z
  · have := hn rfl (tgI rs x); omega
/-- a closed walk with a sum below 0 in a coordinate -/
structure BarW (rs : List Row) (a : Nat) (W : List (Str × Int)) : Prop where
  ne : W ≠ []
  rd : ∀ x ∈ W, x ∈ rdI rs
  cl : ∃ y, isPath (fun x : Str × Int => x.1) (tgI rs) y W y
  ng : (W.map fun x => (vcI rs x).getD a 0).sum < 0
theorem LowsAt.no (h : LowsAt rs a) {W : List (Str × Int)} : ¬ BarW rs a W := fun B => by
  obtain ⟨low, _, hl⟩ := h
  obtain ⟨y, hy⟩ := B.cl
  have := path_le (c := fun x => (vcI rs x).getD a 0) hl hy B.rd
  have := B.ng
  omega
end

/-! ### a while loop and what holds behind it -/
theorem while_out {c : MT} {t : MS} {xc : XC} {d : Dn} {es : Es} {eh : Eh} (J : Nat → Es → Eh → Prop) (K : Es → Eh → Prop) (n : Nat) (j : J n es eh) (out : ∀ es eh, K es eh → d.nx es eh)
    (st : ∀ n es eh, J n es eh → ∀ qt : Bool → Eh → Prop, (∀ b eh1, (b = true → ∀ d' : Dn, d'.rt = d.rt → (∀ m es1 eh1, m < n → J m es1 eh1 → d'.nx es1 eh1) → t xc d' es eh1) → (b = false → K es eh1) → qt b eh1) → c xc es eh qt) : sWhile c t xc d es eh :=
  while_inv J n j fun n es eh hj qt hq => st n es eh hj qt fun b eh1 h1 h2 => hq b eh1 (fun hb d' e1 e2 _ _ => h1 hb d' e1 e2) fun hb => out _ _ (h2 hb)

/-! ### systems with five or six tables -/
def SIX : List Str := ["a", "b", "c", "d", "e", "f"]
theorem six_ok : ∀ k < 7, (SIX.map fun w => STA k ++ w).Nodup ∧ (∀ w ∈ SIX, nameOk (STA k ++ w) = true ∧ STA k ++ w ≠ "zz" ∧ chS (STA k ++ w) = true ∧ (STA k ++ w).length ≤ 20) ∧ (STA k).length ≤ 100 := by decide +kernel
structure PGw (dims : Int) (rows : List Row) : Prop where
  len : 1 ≤ rows.length ∧ rows.length ≤ 6
  nd : (rows.map (·.w)).Nodup
  nm : ∀ r ∈ rows, nameOk r.w = true
  zz : ∀ r ∈ rows, r.w ≠ "zz"
  ch : ∀ r ∈ rows, chS r.w = true
  tot : (rows.map fun r => r.rs.length).sum ≤ 12
  rd : ∀ r ∈ rows, ∀ x ∈ r.rs, PRd dims (rows.map (·.w)) x
theorem PGood.w {dims most : Int} {rows : List Row} (h : PGood dims most rows) (ho : most ≤ 12) : PGw dims rows := ⟨by have := h.len; omega, h.nd, h.nm, h.zz, h.ch, by have := h.tot; omega, h.rd⟩
theorem PGw.fit {dims md : Int} {rows : List Row} (h : PGw dims rows) (hd : 1 ≤ dims ∧ dims ≤ 3) (hmd : 2 ≤ md) : SysFit dims md rows where
  d := hd
  l := h.len
  nd := h.nd
  r := fun r hr => ⟨h.nm r hr, fun x hx => by
    have z := h.rd r hr x hx
    obtain ⟨r', hr', e⟩ := List.mem_map.mp z.t
    exact ⟨by rw [← e]; exact h.nm r' hr', by have := z.v.1; omega, z.f.1⟩⟩
  t := h.tot
  m := hmd
  tg := fun r hr x hx => (h.rd r hr x hx).t
/-- one row more -/
theorem wide_turn {xc : XC} {d : Dn} {eh0 eh : Eh} {a pr pN : Addr} {dims many : Int} {ws : List Str} {ps : List Addr} {M j : Nat} {s : Int × Int × Int} {b : Int} {H : List RowS} {prs : List PRow} {z2 z3 z5 z10 z11 z12 z13 z14 z15 : Option EV} (h : Tb eh0 a pr dims ws ps M s eh H prs) (hs : RgOk b s) (hb : b + 40 ≤ 900000000) (hd : 1 ≤ dims ∧ dims ≤ 3) (hM : M ≤ 20)
    (hw : 5 ≤ ws.length ∧ ws.length ≤ 6) (hN : eh pN = some (.lst (ws.map .str))) (nN : pN ∉ ps ∧ pN ≠ pr ∧ pN ≠ a) (hmany : many ≤ ws.length)
    (k : ∀ (s' : Int × Int × Int) (eh' : Eh) (H' : List RowS) (prs' : List PRow) (z10 z11 z12 : Option EV), Tb eh0 a pr dims ws ps (M + 1) s' eh' H' prs' → eh' pN = some (.lst (ws.map .str)) → RgOk (b + 40) s' → d.nx [some (.ref a), some (.int dims), z2, z3, some (.ref pN), z5, some (.lst (ps.map .ref)), some (.ref pr), some (.int many), some (.int (j : Nat)), z10, z11, z12, z13, z14, z15] eh') :
    bd__law_wide_4 xc d [some (.ref a), some (.int dims), z2, z3, some (.ref pN), z5, some (.lst (ps.map .ref)), some (.ref pr), some (.int many), some (.int (j : Nat)), z10, z11, z12, z13, z14, z15] eh := by
  have hHl : H.length = ws.length := by rw [← h.w]; simp
  have nA : ∀ {e : Eh} {s' : Int × Int × Int}, e pN = some (.lst (ws.map .str)) → eupd e a (some (rgO s')) pN = some (.lst (ws.map .str)) := fun {e s'} he => by rw [eupd_ne nN.2.2]; exact he
  unfold bd__law_wide_4
  walk_at "go"
  refine lenL_i (fro_ref hN) ?_
  refine mod_i (by rw [List.length_map]; omega) ?_
  walk_at "go"
  rw [List.length_map]
  refine ⟨_, _, rfl, ?_⟩
  -- the row, for two places
  have rest : ∀ (i j' : Nat) (s2 : Int × Int × Int) (e2 : Eh) (z10 z11 : Option EV), i < ws.length → j' < ws.length → z10 = some (.int (i : Nat)) → z11 = some (.int (j' : Nat)) → Tb eh0 a pr dims ws ps M s2 e2 H prs → e2 pN = some (.lst (ws.map .str)) → RgOk (b + 2) s2 →
      (sSeq (sSet 12 (mTup (aCons (mOp oIx (mVar 4) (mVar 10)) (aCons (mCB bLen (aCons (mOp oIx (mVar 6) (mVar 10)) aNil)) (aCons (mOp oIx (mVar 4) (mVar 11)) (aCons (mFz 9 (mCall fn__law_vector 3 [] (aCons (mVar 0) (aCons (mVar 1) (aCons (mVar 7) aNil))))) aNil))))))
      (sSeq (sExpr (mBM isLst oAppend (mOp oIx (mVar 6) (mVar 10)) (aCons (mTup (aCons (mOp oIx (mVar 12) (mC (.int 2))) (aCons (mOp oIx (mVar 12) (mC (.int 3))) (aCons (mC (.int 1)) aNil)))) aNil)))
      (sExpr (mBM isLst oAppend (mVar 7) (aCons (mVar 12) aNil))))) xc d [some (.ref a), some (.int dims), z2, z3, some (.ref pN), z5, some (.lst (ps.map .ref)), some (.ref pr), some (.int many), some (.int (j : Nat)), z10, z11, z12, z13, z14, z15] e2 := fun i j' s2 e2 z10 z11 hi hj e10 e11 h2 hN2 hs2 => by
    subst e10 e11
    walk_at "go"
    refine ix_i (x := .ref pN) (eh := e2) (xs := ws.map .str) (z := .str ws[i]) (by simp only [seqE, hN2]) (at_cells (List.getElem?_eq_getElem hi)) ?_
    walk_at "go"
    have hiH : i < H.length := by omega
    have ht : H[i]? = some H[i] := List.getElem?_eq_getElem hiH
    generalize htd : H[i] = t at ht
    have hmem : t ∈ H := List.mem_of_getElem? ht
    have hpi : ps[i]? = some t.p := by rw [← h2.p]; simp [ht]
    have htp : t.p ∈ ps := List.mem_of_getElem? hpi
    have nt : pN ≠ t.p := fun z => nN.1 (z ▸ htp)
    refine ix_i (xs := ps.map .ref) (z := .ref t.p) rfl (at_cells hpi) ?_
    walk_at "go"
    refine lenL_i (fro_ref (h2.hp.at_ t hmem)) ?_
    walk_at "go"
    refine ix_i (x := .ref pN) (eh := e2) (xs := ws.map .str) (z := .str ws[j']) (by simp only [seqE, hN2]) (at_cells (List.getElem?_eq_getElem hj)) ?_
    walk_at "go"
    refine pvec_fz rfl h2.fr.2 hs2 (by omega) hd.1 hd.2 h2.prh (by have := h2.pl; omega) h2.pv fun vec s4 hv4 hs4 => ?_
    have h4 := h2.rg (s' := s4)
    have hN4 := nA (s' := s4) hN2
    generalize (eupd e2 a (some (rgO s4))) = eh4 at h4 hN4 ⊢
    walk_at "go"
    let pv : PRow := ⟨ws[i], (t.r.rs.map rdE).length, ws[j'], vec⟩
    refine ix_i (xs := ps.map .ref) (z := .ref t.p) rfl (at_cells hpi) ?_
    have hat4 := h4.hp.at_ t hmem
    refine ⟨⟨t.r.rs.map rdE, by simp only [lstE, hat4]⟩, ?_⟩
    walk_at "go"
    refine ix_i (xs := [.str ws[i], .int (t.r.rs.map rdE).length, .str ws[j'], .tup (vec.map .int)]) (z := .str ws[j']) rfl (by rfl) ?_
    walk_at "go"
    refine ix_i (xs := [.str ws[i], .int (t.r.rs.map rdE).length, .str ws[j'], .tup (vec.map .int)]) (z := .tup (vec.map .int)) rfl (by rfl) ?_
    walk_at "go"
    have hlen : t.r.rs.length ≤ M := Nat.le_trans (le_sum (List.mem_map.mpr ⟨t, hmem, rfl⟩)) h4.tot
    refine ⟨t.r.rs.map rdE, hat4, szT (by simp; omega), ?_⟩
    have hpr5 : (eupd eh4 t.p (some (.lst (t.r.rs.map rdE ++ [rdE ⟨ws[j'], vec, 1⟩])))) pr = some (.lst (prs.map prowE)) := by
      rw [eupd_ne (fun z => h4.prn (by rw [z]; exact htp))]; exact h4.prh
    have g := h4.add (x := ⟨ws[j'], vec, 1⟩) (y := pv) ht ⟨List.getElem_mem hj, hv4, show (1 : Int) ≠ 0 by decide, show -10 ≤ (1 : Int) by decide, show (1 : Int) ≤ 10 by decide⟩ hv4
    walk_at "go"
    refine ⟨⟨prs.map prowE, by simp only [lstE]; rw [show (EV.tup [.str ws[j'], .tup (vec.map .int), .int 1]) = rdE ⟨ws[j'], vec, 1⟩ from rfl, hpr5]⟩, ?_⟩
    walk_at "go"
    refine ⟨prs.map prowE, hpr5, szT (by have := h4.pl; simp; omega), ?_⟩
    exact k s4 _ _ _ _ _ _ g (by rw [eupd_ne nN.2.1, eupd_ne nt]; exact hN4) (hs4.mono (by omega))
  walk_at "go"
  refine cD_i (fun hge => ?_) (fun hlt => ?_)
  · walk_at "go"
    refine lenL_i (fro_ref hN) ?_
    walk_at "go"
    rw [List.length_map]
    refine draw_fz rfl h.fr.2 hs (by omega) (by omega) (by omega) fun v s1 v0 v1 hs1 => ?_
    have h1 := h.rg (s' := s1)
    have hN1 := nA (s' := s1) hN
    generalize (eupd eh a (some (rgO s1))) = eh1 at h1 hN1 ⊢
    walk_at "go"
    refine lenL_i (fro_ref hN1) ?_
    walk_at "go"
    rw [List.length_map]
    refine draw_fz rfl h1.fr.2 hs1 (by omega) (by omega) (by omega) fun v2 s2 v20 v21 hs2 => ?_
    have h2 := h1.rg (s' := s2)
    have hN2 := nA (s' := s2) hN1
    generalize (eupd eh1 a (some (rgO s2))) = eh2 at h2 hN2 ⊢
    obtain ⟨i, rfl⟩ := Int.eq_ofNat_of_zero_le v0
    obtain ⟨j', rfl⟩ := Int.eq_ofNat_of_zero_le v20
    refine anil_i ?_
    refine ⟨_, _, rfl, ?_⟩
    exact rest i j' s2 eh2 _ _ (by omega) (by omega) rfl rfl h2 hN2 (hs2.mono (by omega))
  · refine next_i ?_
    have hj : j < ws.length := by omega
    have hm0 : 0 ≤ ((j : Int) + 1) % ((ws.length : Nat) : Int) := Int.emod_nonneg _ (by omega)
    have hm1 : ((j : Int) + 1) % ((ws.length : Nat) : Int) < ((ws.length : Nat) : Int) := Int.emod_lt_of_pos _ (by omega)
    obtain ⟨j', hj'⟩ := Int.eq_ofNat_of_zero_le hm0
    rw [hj'] at hm1 ⊢
    exact rest j j' s eh _ _ hj (by omega) rfl rfl h hN (hs.mono (by omega))
theorem erase_pm {α : Type} : ∀ {l : List α} {i : Nat} (h : i < l.length), (l[i] :: l.eraseIdx i).Perm l
  | x :: l, 0, _ => .refl _
  | x :: l, i + 1, h => by
    have hi : i < l.length := by simpa using h
    have ih := erase_pm hi
    show (l[i] :: x :: l.eraseIdx i).Perm (x :: l)
    exact (List.Perm.swap x l[i] _).trans (ih.cons x)
theorem wide_fz {S : Addr → Bool} {xc : XC} {a : Addr} {s : Int × Int × Int} {dims b : Int} {eh : Eh} {q : KE} (hS : S = nw eh) (h : eh a = some (rgO s)) (hs : RgOk b s) (hb : b + 2000 ≤ 700000000) (hd : 1 ≤ dims ∧ dims ≤ 3)
    (k : ∀ (rows : List Row) (s' : Int × Int × Int), PGw dims rows → RgOk (b + 2000) s' → q (.lst (rows.map rowE)) (eupd eh a (some (rgO s')))) :
    ([EV.ref a, .int dims, .int 12] ++ []).length = 3 ∧ FZ S fn__law_wide xc ([EV.ref a, .int dims, .int 12] ++ []) eh q := by
  refine ⟨rfl, ?_⟩
  subst hS
  have ha : eh a ≠ none := by rw [h]; simp
  have e : ∀ T : List EV, T = T.map id := fun T => by simp
  unfold FZ fn__law_wide ms__law_wide
  walk_at "go"
  intro pL hpL
  have aL : pL ≠ a := fun z => ha (by rw [← z]; exact hpL)
  walk_at "go"
  intro pT hpT
  have aT : pT ≠ a := fun z => by rw [z, eupd_ne (Ne.symm aL), h] at hpT; cases hpT
  have LT : pT ≠ pL := fun z => by rw [z, eupd_same] at hpT; cases hpT
  have T0 : eh pT = none := by rw [eupd_ne LT] at hpT; exact hpT
  walk_at "go"
  refine ⟨_, _, rfl, ?_⟩
  refine seq_i ?_
  -- the names are drawn
  refine while_out (fun n es eh' => ∃ (T left : List Str) (s' : Int × Int × Int) (c : Int), (T ++ left).Perm SIX ∧ left.length = n ∧ Fr eh a s' eh' ∧ RgOk c s' ∧ c + 10 * left.length ≤ b + 60 ∧ eh' pL = some (.lst (left.map .str)) ∧ eh' pT = some (.lst (T.map .str)) ∧
      es = [some (.ref a), some (.int dims), some (.int 12), some (.ref pL), some (.ref pT), none, none, none, none, none, none, none, none, none, none, none])
    (fun es eh' => ∃ (T left : List Str) (s' : Int × Int × Int), (T ++ left).Perm SIX ∧ 5 ≤ T.length ∧ Fr eh a s' eh' ∧ RgOk (b + 70) s' ∧ eh' pT = some (.lst (T.map .str)) ∧
      es = [some (.ref a), some (.int dims), some (.int 12), some (.ref pL), some (.ref pT), none, none, none, none, none, none, none, none, none, none, none])
    6 ⟨[], SIX, s, b, .refl _, rfl, ?_, hs, by show b + 10 * 6 ≤ b + 60; omega, ?_, ?_, rfl⟩ ?_ ?_
  · refine ((?_ : Fr eh a s eh).newp hpL aL).newp T0 aT
    exact ⟨fun _ _ _ => rfl, h⟩
  · rw [eupd_ne (Ne.symm LT), eupd_same]; rfl
  · rw [eupd_same]; rfl
  · rintro es eh1 ⟨T, left, s1, hp, hT, fr, hs1, hT1, rfl⟩
    have hTl : T.length ≤ 6 := by have := hp.length_eq; rw [List.length_append] at this; have : SIX.length = 6 := rfl; omega
    walk_at "go"
    refine draw_fz rfl fr.2 hs1 (by omega) (by omega) (by omega) fun v s2 v0 v1 hs2 => ?_
    have fr2 := fr.rg (s' := s2)
    have hT2 : eupd eh1 a (some (rgO s2)) pT = some (.lst (T.map .str)) := by rw [eupd_ne aT]; exact hT1
    generalize (eupd eh1 a (some (rgO s2))) = eh2 at fr2 hT2 ⊢
    walk_at "go"
    refine draw_fz rfl fr2.2 hs2 (by omega) (by omega) (by omega) fun v2 s3 v20 v21 hs3 => ?_
    have fr3 := fr2.rg (s' := s3)
    have hT3 : eupd eh2 a (some (rgO s3)) pT = some (.lst (T.map .str)) := by rw [eupd_ne aT]; exact hT2
    generalize (eupd eh2 a (some (rgO s3))) = eh3 at fr3 hT3 ⊢
    walk_at "go"
    refine bint_i (v2 = 0) ?_
    refine mul_i (i := v) (.inl (.inl (by omega))) ?_
    obtain ⟨kk, ek, hk⟩ : ∃ kk : Nat, v * (if v2 = 0 then 1 else 0) = (kk : Int) ∧ kk < 7 := by
      by_cases hz : v2 = 0
      · exact ⟨v.toNat, by rw [if_pos hz]; omega, by omega⟩
      · exact ⟨0, by rw [if_neg hz]; omega, by omega⟩
    rw [ek]
    obtain ⟨s61, s62, s63⟩ := six_ok kk hk
    walk_at "go"
    refine ⟨szL (by decide +kernel), ?_⟩
    walk_at "go"
    have Tm : ∀ w ∈ T, w ∈ SIX := fun w hw => hp.mem_iff.mp (by simp [hw])
    refine walk_i (fro_ref hT3) fun ok ok0 _ => ?_
    refine comp_map (c := EV.str) (f := fun w => .str (STA kk ++ w)) ok0 (by simp; omega) (fun w hw => asgx_i rfl fun q' hq' => ?_) ?_
    · walk_at "go"
      have wl : ∀ w ∈ SIX, w.length ≤ 10 := by decide +kernel
      have := wl w (Tm w hw)
      refine ⟨szL (by show (STA kk).length + w.length ≤ 5000; omega), ?_⟩
      exact hq'
    rw [List.nil_append, show T.map (fun w => EV.str (STA kk ++ w)) = (T.map fun w => STA kk ++ w).map .str by rw [List.map_map]; rfl]
    have nd : (T.map fun w => STA kk ++ w).Nodup := by
      have := (hp.map fun w => STA kk ++ w).nodup_iff.mpr s61
      rw [List.map_append] at this
      exact (List.nodup_append.mp this).1
    have nm : ∀ w ∈ T.map (fun w => STA kk ++ w), nameOk w = true ∧ w ≠ "zz" ∧ chS w = true := fun w hw => by
      obtain ⟨u, hu, rfl⟩ := List.mem_map.mp hw
      have := s62 u (Tm u hu)
      exact ⟨this.1, this.2.1, this.2.2.1⟩
    have hwl : 5 ≤ (T.map fun w => STA kk ++ w).length ∧ (T.map fun w => STA kk ++ w).length ≤ 6 := by rw [List.length_map]; omega
    generalize T.map (fun w => STA kk ++ w) = ws at nd nm hwl
    refine ⟨_, rfl, fun pN hpN => ?_⟩
    obtain ⟨N0, Na⟩ := fr3.fresh hpN
    have fr4 := fr3.newp (o := some (.lst (ws.map .str))) N0 Na
    have hN4 : eupd eh3 pN (some (.lst (ws.map .str))) pN = some (.lst (ws.map .str)) := eupd_same
    generalize eupd eh3 pN (some (.lst (ws.map .str))) = eh4 at fr4 hN4 ⊢
    clear hT1 hT2 hT3 fr fr2 fr3 hpN
    walk_at "go"
    refine walk_i (fro_ref hN4) fun ok ok0 ok1 => ?_
    refine comp_inv (c := .str) (fun acc L eh' => ∃ (H : List RowS), acc = H.map (fun t => .ref t.p) ∧ H.map (·.r.w) ++ L = ws ∧ (∀ t ∈ H, t.r.rs = [] ∧ t.p ≠ pN) ∧ HpR eh a eh' H ∧ Fr eh a s3 eh' ∧ Kp eh4 eh' ∧ eh' pN = some (.lst (ws.map .str))) ⟨[], rfl, rfl, by simp, ⟨by simp, by simp, by simp⟩, fr4, .refl, hN4⟩ (by simp; omega) ?_ ?_
    · rintro acc w L eh' ⟨H, rfl, hw, hr0, hh, hf, kp, hN⟩
      refine ⟨ok1 _ kp, _, rfl, fun q' hq => ?_⟩
      walk_at "go"
      intro p hp
      obtain ⟨p0, pa⟩ := hf.fresh hp
      have pNp : p ≠ pN := fun z => by rw [z, hN] at hp; cases hp
      have hpL : ∀ t ∈ H, t.p ≠ p := fun t ht z => by have := hh.at_ t ht; rw [z, hp] at this; cases this
      refine hq _ _ ⟨H ++ [⟨⟨w, 1, []⟩, p⟩], by simp, by simp [← hw], fun t ht => ?_, ⟨fun t ht => ?_, ?_, fun t ht => ?_⟩, hf.newp p0 pa, kp.set (kp_none kp hp), by rw [eupd_ne (Ne.symm pNp)]; exact hN⟩
      · rcases List.mem_append.mp ht with ht | ht
        · exact hr0 t ht
        · obtain rfl := List.mem_singleton.mp ht; exact ⟨rfl, pNp⟩
      · rcases List.mem_append.mp ht with ht | ht
        · rw [eupd_ne (hpL t ht)]; exact hh.at_ t ht
        · obtain rfl := List.mem_singleton.mp ht; rw [eupd_same]; rfl
      · simp only [List.map_append, List.map_cons, List.map_nil]
        refine List.nodup_append.mpr ⟨hh.nd, by simp, fun x hx y hy z => ?_⟩
        obtain ⟨t, ht, rfl⟩ := List.mem_map.mp hx
        simp at hy; exact hpL t ht (z.trans hy)
      · rcases List.mem_append.mp ht with ht | ht
        · exact hh.new t ht
        · obtain rfl := List.mem_singleton.mp ht; exact ⟨p0, pa⟩
    rintro acc eh' ⟨H, rfl, hw, hr0, hh, hf, kp, hN⟩
    rw [List.append_nil] at hw
    refine ⟨ok1 _ kp, ?_⟩
    walk_at "go"
    intro pr hpr
    walk_at "go"
    refine ⟨_, _, rfl, ?_⟩
    obtain ⟨pr0, pra⟩ := hf.fresh hpr
    have prN : pN ≠ pr := fun z => by rw [z, hpr] at hN; cases hN
    have hpLr : ∀ t ∈ H, t.p ≠ pr := fun t ht z => by have := hh.at_ t ht; rw [z, hpr] at this; cases this
    have T0 : Tb eh a pr dims ws (H.map (·.p)) 0 s3 (eupd eh' pr (some (.lst []))) H [] := ⟨hw, rfl, ⟨fun t ht => by rw [eupd_ne (hpLr t ht)]; exact hh.at_ t ht, hh.nd, hh.new⟩, hf.newp pr0 pra, eupd_same, ⟨pr0, pra⟩, fun z => by obtain ⟨t, ht, e⟩ := List.mem_map.mp z; exact hpLr t ht e, Nat.le_refl _, by simp, by
      have : ∀ l : List RowS, (∀ t ∈ l, t.r.rs = []) → (l.map fun t => t.r.rs.length).sum ≤ 0 := by
        intro l hl
        induction l with
        | nil => exact Nat.le_refl _
        | cons y l ih => have := ih fun t ht => hl t (by simp [ht]); simp [hl y (by simp)] at this ⊢; exact this
      exact this H fun t ht => (hr0 t ht).1, fun t ht x hx => by rw [(hr0 t ht).1] at hx; cases hx⟩
    have hN1 : eupd eh' pr (some (.lst [])) pN = some (.lst (ws.map .str)) := by rw [eupd_ne prN]; exact hN
    have nNp : pN ∉ H.map (·.p) := fun z => by obtain ⟨t, ht, e⟩ := List.mem_map.mp z; exact (hr0 t ht).2 e
    rw [show H.map (fun t => EV.ref t.p) = (H.map (·.p)).map .ref by rw [List.map_map]; rfl]
    generalize (eupd eh' pr (some (.lst []))) = eh1' at T0 hN1 ⊢
    generalize H.map (·.p) = ps at T0 nNp
    walk_at "go"
    refine lenL_i (fro_ref hN1) ?_
    walk_at "go"
    rw [List.length_map]
    refine draw_fz rfl T0.fr.2 hs3 (by omega) (by omega) (by omega) fun v4 s4 v40 v41 hs4 => ?_
    have T1 := T0.rg (s' := s4)
    have hN2 : eupd eh1' a (some (rgO s4)) pN = some (.lst (ws.map .str)) := by rw [eupd_ne Na]; exact hN1
    generalize (eupd eh1' a (some (rgO s4))) = eh2 at T1 hN2 ⊢
    walk_at "go"
    generalize hmany : ((ws.length : Nat) : Int) - 1 + v4 = many
    refine draw_fz rfl T1.fr.2 hs4 (by omega) (by omega) (by omega) fun v5 s5 v50 v51 hs5 => ?_
    have T2 := T1.rg (s' := s5)
    have hN3 : eupd eh2 a (some (rgO s5)) pN = some (.lst (ws.map .str)) := by rw [eupd_ne Na]; exact hN2
    generalize (eupd eh2 a (some (rgO s5))) = eh3 at T2 hN3 ⊢
    walk_at "go"
    refine ⟨_, rfl, by omega, ?_⟩
    have tn : (many + v5).toNat ≤ 12 := by omega
    generalize (many + v5).toNat = tot at tn
    refine for_inv (c := fun i : Nat => EV.int (i : Int)) (fun L es eh' => ∃ (H : List RowS) (prs : List PRow) (M : Nat) (s' : Int × Int × Int) (c : Int) (z9 z10 z11 z12 : Option EV), Tb eh a pr dims ws ps M s' eh' H prs ∧ eh' pN = some (.lst (ws.map .str)) ∧ M + L.length = tot ∧ RgOk c s' ∧ c + 40 * L.length ≤ b + 100 + 40 * tot ∧
      es = [some (.ref a), some (.int dims), some (.int 12), some (.ref pL), some (.ref pN), some (.str (L2.cutS "readin" none (some (kk : Int)))), some (.lst (ps.map .ref)), some (.ref pr), some (.int many), z9, z10, z11, z12, none, none, none]) ⟨H, [], 0, s5, b + 100, _, _, _, _, T2, hN3, by simp, hs5.mono (by omega), by simp, rfl⟩ ?_ ?_
    · rintro i L es eh' ⟨H, prs, M, s', c, z9, z10, z11, z12, T, hN, hM, hs', hc, rfl⟩
      simp only [List.length_cons] at hM hc
      refine ⟨trivial, asgx_i rfl fun d' _ hn _ _ => ?_⟩
      refine wide_turn T hs' (by omega) hd (by omega) hwl hN ⟨nNp, prN, Na⟩ (by omega) fun s6 eh6 H6 prs6 z10 z11 z12 T6 hN6 hs6 => hn _ _ ⟨H6, prs6, M + 1, s6, c + 40, _, _, _, _, T6, hN6, by omega, hs6, by omega, rfl⟩
    · rintro es eh' ⟨H, prs, M, s', c, z9, z10, z11, z12, T, hN, hM, hs', hc, rfl⟩
      refine ⟨trivial, ?_⟩
      simp only [List.length_nil] at hM hc
      walk_at "go"
      obtain ⟨ok, eok, ok0, ok1⟩ := fro_src (fro_ref hN)
      refine .inr ⟨ws.map .str, ps.map .ref, ok, _, eok, rfl, ?_⟩
      have ez : (((ws.map EV.str).zip (ps.map EV.ref)).map fun p => EV.tup [p.1, p.2]) = H.map fun t => EV.tup [.str t.r.w, .ref t.p] := by
        rw [← T.w, ← T.p]
        have : ∀ H : List RowS, ((((H.map (·.r.w)).map EV.str).zip ((H.map (·.p)).map EV.ref)).map fun p => EV.tup [p.1, p.2]) = H.map fun t => EV.tup [.str t.r.w, .ref t.p] := by
          intro H
          induction H with
          | nil => rfl
          | cons t H ih => simpa using ih
        exact this H
      rw [ez]
      have hHl : H.length = ws.length := by rw [← T.w]; simp
      refine comp_map (c := fun t : RowS => EV.tup [.str t.r.w, .ref t.p]) (f := fun t => rowS ⟨⟨t.r.w, 1, t.r.rs⟩, t.p⟩) ⟨ok0, trivial⟩ (by simp; omega) (fun t ht => asgx_i rfl fun q' hq => ?_) ?_
      · unfold ce__law_wide_5
        walk_at "go"
        exact hq
      rw [List.nil_append, show H.map (fun t => rowS ⟨⟨t.r.w, 1, t.r.rs⟩, t.p⟩) = (H.map fun t => (⟨⟨t.r.w, 1, t.r.rs⟩, t.p⟩ : RowS)).map rowS by rw [List.map_map]; rfl]
      have hpd : HpR eh a eh' (H.map fun t => (⟨⟨t.r.w, 1, t.r.rs⟩, t.p⟩ : RowS)) := ⟨fun t ht => by
        obtain ⟨u, hu, rfl⟩ := List.mem_map.mp ht
        exact T.hp.at_ u hu, by rw [List.map_map]; exact T.hp.nd, fun t ht => by
        obtain ⟨u, hu, rfl⟩ := List.mem_map.mp ht
        exact T.hp.new u hu⟩
      rw [T.fr.dr ha, fz_rows hpd]
      have ew : ((H.map fun t => (⟨⟨t.r.w, 1, t.r.rs⟩, t.p⟩ : RowS)).map (·.r)).map (·.w) = ws := by rw [List.map_map, List.map_map, ← T.w]; rfl
      have el : ((H.map fun t => (⟨⟨t.r.w, 1, t.r.rs⟩, t.p⟩ : RowS)).map (·.r)).length = ws.length := by rw [List.length_map, List.length_map]; exact hHl
      have nm' : ∀ r ∈ (H.map fun t => (⟨⟨t.r.w, 1, t.r.rs⟩, t.p⟩ : RowS)).map (·.r), nameOk r.w = true ∧ r.w ≠ ("zz" : Str) ∧ chS r.w = true := fun r hr => nm r.w (by rw [← ew]; exact List.mem_map.mpr ⟨r, hr, rfl⟩)
      refine k _ s' ⟨by omega, by rw [ew]; exact nd, fun r hr => (nm' r hr).1, fun r hr => (nm' r hr).2.1, fun r hr => (nm' r hr).2.2, ?_, fun r hr x hx => ?_⟩ (hs'.mono (by omega))
      · have : ((H.map fun t => (⟨⟨t.r.w, 1, t.r.rs⟩, t.p⟩ : RowS)).map (·.r)).map (fun r => r.rs.length) = H.map fun t => t.r.rs.length := by rw [List.map_map, List.map_map]; rfl
        rw [this]
        have := T.tot
        omega
      · obtain ⟨t, ht, rfl⟩ := List.mem_map.mp hr
        obtain ⟨u, hu, rfl⟩ := List.mem_map.mp ht
        rw [ew]; exact T.rd u hu x hx
  · rintro n es eh' ⟨T, left, s', c, hp, hn, fr, hs', hc, hL, hT, rfl⟩ qt hq
    have hsum : T.length + left.length = 6 := by have := hp.length_eq; rw [List.length_append] at this; exact this
    walk_at "go"
    refine lenL_i (fro_ref hT) ?_
    walk_at "go"
    rw [List.length_map]
    refine draw_fz rfl fr.2 hs' (by omega) (by omega) (by omega) fun v s1 v0 v1 hs1 => ?_
    have fr1 := fr.rg (s' := s1)
    have hL1 : eupd eh' a (some (rgO s1)) pL = some (.lst (left.map .str)) := by rw [eupd_ne aL]; exact hL
    have hT1 : eupd eh' a (some (rgO s1)) pT = some (.lst (T.map .str)) := by rw [eupd_ne aT]; exact hT
    generalize (eupd eh' a (some (rgO s1))) = eh1 at fr1 hL1 hT1 ⊢
    walk_at "go"
    refine cD_i (fun hlt => ?_) (fun hge => ?_)
    rotate_left
    · exact hq _ _ (fun z => nomatch z) fun _ => ⟨T, left, s1, hp, by omega, fr1, hs1.mono (by omega), hT1, rfl⟩
    walk_at "go"
    refine eq_i (n := 1) (m := 1) (x' := .lst (left.map .str)) (y' := .lst []) (decide (left = [])) (fro_ref hL1) rfl (okD_map fun _ _ => okD_str) rfl (by decide) (by decide) (by cases left <;> simp) ?_
    refine ⟨_, rfl, ?_⟩
    rw [Bool.true_xor]
    by_cases hle : left = []
    · rw [decide_eq_true hle]
      exact hq _ _ (fun z => nomatch z) fun _ => ⟨T, left, s1, hp, by rw [hle] at hsum; simp at hsum; omega, fr1, hs1.mono (by omega), hT1, rfl⟩
    rw [decide_eq_false hle]
    have lp := List.length_pos_iff.mpr hle
    refine hq _ _ (fun _ d' hrt hnx => ?_) fun z => nomatch z
    unfold bd__law_wide_1
    walk_at "go"
    refine ⟨isLst_ref hT1, ?_⟩
    walk_at "go"
    refine ⟨isLst_ref hL1, ?_⟩
    walk_at "go"
    refine lenL_i (fro_ref hL1) ?_
    walk_at "go"
    rw [List.length_map]
    refine draw_fz rfl fr1.2 hs1 (by omega) (by omega) (by omega) fun u s2 u0 u1 hs2 => ?_
    have fr2 := fr1.rg (s' := s2)
    have hL2 : eupd eh1 a (some (rgO s2)) pL = some (.lst (left.map .str)) := by rw [eupd_ne aL]; exact hL1
    have hT2 : eupd eh1 a (some (rgO s2)) pT = some (.lst (T.map .str)) := by rw [eupd_ne aT]; exact hT1
    generalize (eupd eh1 a (some (rgO s2))) = eh2 at fr2 hL2 hT2 ⊢
    obtain ⟨i, rfl⟩ := Int.eq_ofNat_of_zero_le u0
    have hi : i < left.length := by omega
    walk_at "go"
    refine ⟨left.map .str, i, .str left[i], hL2, by omega, by omega, ?_, by rw [List.getElem?_map, List.getElem?_eq_getElem hi]; rfl, ?_⟩
    · rw [List.length_map]
      unfold ixN
      rw [if_pos (by omega), if_pos (by omega), Int.toNat_natCast]
    walk_at "go"
    have fr3 := fr2.newp (o := some (.lst ((left.map EV.str).eraseIdx i))) hpL aL
    refine ⟨T.map .str, by rw [eupd_ne LT]; exact hT2, szT (by simp; omega), ?_⟩
    have er : (left.map EV.str).eraseIdx i = (left.eraseIdx i).map .str := by
      have : ∀ (l : List Str) (i : Nat), (l.map EV.str).eraseIdx i = (l.eraseIdx i).map .str := fun l => by
        induction l with
        | nil => intro _; rfl
        | cons x l ih =>
          intro i
          cases i with
          | zero => rfl
          | succ i => simp only [List.map_cons, List.eraseIdx_cons_succ, ih]
      exact this left i
    have len2 : (left.eraseIdx i).length + 1 = left.length := by rw [List.length_eraseIdx_of_lt hi]; omega
    have pm : (T ++ [left[i]] ++ left.eraseIdx i).Perm SIX := by
      refine List.Perm.trans ?_ hp
      rw [List.append_assoc]
      refine List.Perm.append_left T ?_
      exact erase_pm hi
    rw [er] at fr3 ⊢
    refine hnx (left.eraseIdx i).length _ _ (by omega) ⟨T ++ [left[i]], left.eraseIdx i, s2, c + 2, pm, rfl, fr3.newp T0 aT, hs2.mono (by omega), by omega, by rw [eupd_ne (Ne.symm LT), eupd_same], by rw [eupd_same]; simp, rfl⟩

/-! ### the least of ints -/
theorem mnI_nonneg {ns : List Int} (h : ∀ n ∈ ns, 0 ≤ n) : 0 ≤ mnI ns := by
  cases ns with
  | nil => exact Int.le_refl _
  | cons n r =>
    have : ∀ (r : List Int) (n : Int), 0 ≤ n → (∀ m ∈ r, 0 ≤ m) → 0 ≤ leastI n r := by
      intro r
      induction r with
      | nil => intro n hn _; exact hn
      | cons m r ih => intro n hn hr; exact ih _ (by split; exact hr m (by simp); exact hn) fun y hy => hr y (by simp [hy])
    exact this r n (h n (by simp)) fun m hm => h m (by simp [hm])
theorem mnI_iff {ns : List Int} (h : ns ≠ []) : 0 ≤ mnI ns ↔ ∀ n ∈ ns, 0 ≤ n := by
  refine ⟨fun hm => ?_, mnI_nonneg⟩
  cases ns with
  | nil => exact absurd rfl h
  | cons n r =>
    have : ∀ (r : List Int) (n : Int), leastI n r ≤ n ∧ ∀ m ∈ r, leastI n r ≤ m := by
      intro r
      induction r with
      | nil => intro n; exact ⟨Int.le_refl _, by simp⟩
      | cons m r ih =>
        intro n
        show leastI (if m < n then m else n) r ≤ n ∧ ∀ x ∈ m :: r, leastI (if m < n then m else n) r ≤ x
        obtain ⟨a, b⟩ := ih (if m < n then m else n)
        have hq : (if m < n then m else n) ≤ n ∧ (if m < n then m else n) ≤ m := by split <;> omega
        generalize (if m < n then m else n) = z at *
        refine ⟨by omega, fun x hx => ?_⟩
        rcases List.mem_cons.mp hx with rfl | hx
        · omega
        · exact b x hx
    obtain ⟨a, b⟩ := this r n
    have hm' : 0 ≤ leastI n r := hm
    intro m hm2
    rcases List.mem_cons.mp hm2 with rfl | h
    · omega
    · have := b m h; omega

/-! ### walks that bar -/
theorem sumV_ne {d : Nat} {rs : List Row} {W : List (Str × Int)} (hd : 1 ≤ d) : sumV d rs W ≠ [] := fun z => by
  have := congrArg List.length z
  unfold sumV at this
  simp at this
  omega
theorem mn_neg {d : Nat} {rs : List Row} {W : List (Str × Int)} (hd : 1 ≤ d) : mnI (sumV d rs W) < 0 ↔ ∃ a < d, (W.map fun x => (vcI rs x).getD a 0).sum < 0 := by
  have h := mnI_iff (sumV_ne (rs := rs) (W := W) hd)
  constructor
  · intro hlt
    apply Classical.byContradiction
    intro no
    have : 0 ≤ mnI (sumV d rs W) := h.mpr fun n hn => by
      obtain ⟨a, ha, rfl⟩ := List.mem_map.mp hn
      rcases Int.lt_or_le ((W.map fun x => (vcI rs x).getD a 0).sum) 0 with z | z
      · exact absurd ⟨a, List.mem_range.mp ha, z⟩ no
      · exact z
    omega
  · rintro ⟨a, ha, hs⟩
    rcases Int.lt_or_le (mnI (sumV d rs W)) 0 with z | z
    · exact z
    · have := h.mp z _ (List.mem_map.mpr ⟨a, List.mem_range.mpr ha, rfl⟩)
      omega
theorem BarW.clB {rs : List Row} {a : Nat} {W : List (Str × Int)} (B : BarW rs a W) : clB rs W = true := by
  obtain ⟨y, hy⟩ := B.cl
  unfold LW.clB
  rw [Bool.and_eq_true, Bool.and_eq_true]
  refine ⟨⟨by simp [B.ne], List.all_eq_true.mpr fun x hx => decide_eq_true (B.rd x hx)⟩, ?_⟩
  rw [List.all_eq_true]
  intro p hp
  refine decide_eq_true ?_
  cases W with
  | nil => exact absurd rfl B.ne
  | cons x l =>
    have hx : x.1 = y := hy.1
    exact path_zip (l := l) (x := x) (z := x) (b := y) ⟨rfl, hy.2⟩ hx p hp

/-! ### rounds with something below 0 -/
theorem pm_sum {α : Type} {f : α → Int} {l m : List α} (h : l.Perm m) : (l.map f).sum = (m.map f).sum := by
  induction h with
  | nil => rfl
  | cons x _ ih => simp only [List.map_cons, List.sum_cons, ih]
  | swap x y l => simp only [List.map_cons, List.sum_cons]; omega
  | trans _ _ h1 h2 => exact h1.trans h2
/-- which rounds have something below 0 -/
def badR (dims : Int) (rs : List Row) (r : List Zr) : Bool := decide (mnI (sumV dims.toNat rs (r.map (·.1))) < 0)
theorem free_some {dims md : Int} {rs : List Row} {C : List (List Zr)} {a : Nat} {W : List (Str × Int)} (F : SysFit dims md rs) (hC : ∀ t r, RdZ (rdT rs) t r → r ∈ C) (ha : a < dims.toNat) (B : BarW rs a W) : C.filter (badR dims rs) ≠ [] := fun z => by
  have hd := F.d
  obtain ⟨y, hy⟩ := B.cl
  obtain ⟨V, u, v1, v2, v3, v4, v5⟩ := neg_simple (c := fun x => (vcI rs x).getD a 0) W.length (Nat.le_refl _) B.ne hy B.ng
  obtain ⟨t, r, h1, h2, _⟩ := simple_rd F.nd v1 (fun x hx => B.rd x (v2 x hx)) v3 v5
  refine List.filter_eq_nil_iff.mp z r (hC t r h1) ?_
  unfold badR
  rw [decide_eq_true_eq, mn_neg (by omega)]
  exact ⟨a, ha, by rw [pm_sum h2]; exact v4⟩

/-! ### greatest_shifts -/
section
variable {rs : List Row} {dims md : Int}
/-- a table that was lowered too late tells a closed walk below 0 -/
theorem late_bar {a : Nat} {low : Str → Int} {L : List (Str × (Str × Int))} {w : Str} (h : SysFit dims md rs) (H : LwOk rs a low L (some w)) : ∃ W, BarW rs a W := by
  obtain ⟨u, I, _, hu⟩ := H.i
  have hu := hu w rfl
  have hin : ∀ x ∈ rdI rs, x.1 ∈ rs.map (·.w) := fun x hx => (rdI_fit h hx).2.2
  obtain ⟨m, m1, ml, mq, mmin, call, _⟩ := on_round (ws := rs.map fun r : Row => r.w) I hin (w := w) (by rw [List.length_map]; omega)
  generalize itF (tgI rs) (getA L) (rs.map fun r : Row => r.w).length w = y at mq mmin call
  obtain ⟨X, hX⟩ : ∃ X : Nat → Str × Int, ∀ i, getA L (itF (tgI rs) (getA L) i y) = some (X i) := ⟨fun i => (call i).choose, fun i => (call i).choose_spec⟩
  have Xm := fun i => I.mem _ _ (hX i)
  have Xt : ∀ i, tgI rs (X i) = itF (tgI rs) (getA L) (i + 1) y := fun i => (ntF_some (hX i)).symm
  have Wp : ∀ t, isPath (fun x : Str × Int => x.1) (tgI rs) y ((List.range t).map X) (itF (tgI rs) (getA L) t y) := fun t => by
    induction t with
    | zero => rfl
    | succ t ih =>
      rw [List.range_succ, List.map_append]
      exact path_cat ih ⟨(Xm t).2.1, Xt t⟩
  have nd : (((List.range m).map X).map (·.1)).Nodup := by
    rw [List.map_map, List.nodup_iff_pairwise_ne, List.pairwise_map]
    refine List.Pairwise.imp_of_mem ?_ List.pairwise_lt_range
    intro i j hi hj hij e
    have hj := List.mem_range.mp hj
    simp only [Function.comp, (Xm i).2.1, (Xm j).2.1] at e
    refine mmin (m - j + i) (by omega) (by omega) ?_
    rw [itF_add, e, ← itF_add, show m - j + j = m by omega]
    exact mq
  have P := Wp m
  rw [mq] at P
  have csP : ∀ x ∈ (List.range m).map X, getA L x.1 = some x := fun x hx => by
    obtain ⟨i, _, rfl⟩ := List.mem_map.mp hx
    rw [(Xm i).2.1]; exact hX i
  have ne : (List.range m).map X ≠ [] := fun z => by have := congrArg List.length z; simp at this; omega
  exact ⟨_, ne, fun x hx => by obtain ⟨i, _, rfl⟩ := List.mem_map.mp hx; exact (Xm i).1, ⟨y, P⟩, I.ng y _ ne P csP nd⟩
abbrev LwT := (Str → Int) × (List (Str × (Str × Int))) × Option Str
def lwT (ws : List Str) (t : LwT) : EV := lwE ws t.1 t.2.1 t.2.2
def shV (v : List Int) : EV := .tup (v.map .int)
def shE (ws : List Str) (T : List LwT) : List (Key × EV) := asK shV (ws.map fun w => (w, T.map fun t => t.1 w))
theorem fz_shE (S : Addr → Bool) (eh : Eh) (ws : List Str) (T : List LwT) (k : Nat) : (shE ws T).map (fun p => (p.1, fz S eh k p.2)) = shE ws T := fz_asK (n := 1) (fun v => okB_of (okD_ints v)) _
end

/-! ### greatest_shifts, its dict explicit -/
section
variable {rs : List Row} {dims md : Int}
theorem gsh_ez {xc : XC} {eh : Eh} {q : KE} (h : SysFit dims md rs) (k0 : (∃ a < dims.toNat, ∃ W, BarW rs a W) → q .non eh)
    (k1 : ∀ T : List LwT, T.length = dims.toNat → (∀ (a : Nat) t, T[a]? = some t → LwOk rs a t.1 t.2.1 none) → ∀ p, eh p = none → q (.ref p) (eupd eh p (some (.dct (shE (rs.map (·.w)) T))))) :
    fn_greatest_shifts xc [sysE dims md rs] eh q := by
  have hd := h.d
  have r6 : rs.length ≤ 6 := h.l.2
  unfold fn_greatest_shifts ms_greatest_shifts
  walk_at "go"
  refine ⟨_, .int dims, rfl, by rfl, ?_⟩
  walk_at "go"
  refine ⟨_, rfl, by omega, ?_⟩
  refine comp_inv (c := fun i : Nat => EV.int (i : Int)) (fun acc N eh' => ∃ T : List LwT, acc = T.map (lwT (rs.map (·.w))) ∧ N = (List.range dims.toNat).drop T.length ∧ T.length ≤ dims.toNat ∧ eh' = eh ∧ ∀ (a : Nat) t, T[a]? = some t → LwOk rs a t.1 t.2.1 t.2.2)
    ⟨[], rfl, rfl, Nat.zero_le _, rfl, fun a t e => by simp at e⟩ (by simp; omega) ?_ ?_
  · rintro acc j N eh' ⟨T, rfl, eN, hi, rfl, hT⟩
    have hi' : T.length < dims.toNat := by
      rcases Nat.lt_or_ge T.length dims.toNat with z | z
      · exact z
      · rw [List.drop_eq_nil_of_le (by simpa using z)] at eN; cases eN
    rw [drop_range hi'] at eN
    obtain ⟨ej, eN⟩ := List.cons.inj eN
    subst ej
    refine ⟨trivial, _, rfl, fun qt hqt => ?_⟩
    unfold ce_greatest_shifts_1
    walk_at "go"
    refine low_mz rfl h hi' fun low L late H => ?_
    refine hqt _ _ ⟨T ++ [(low, L, late)], by simp [lwT], by simpa using eN, by simp; omega, rfl, fun a t e => ?_⟩
    rcases Nat.lt_trichotomy a T.length with g | g | g
    · rw [List.getElem?_append_left g] at e; exact hT a t e
    · subst g
      rw [List.getElem?_append_right (Nat.le_refl _)] at e
      simp at e
      subst e
      exact H
    · rw [List.getElem?_eq_none (by simp; omega)] at e; cases e
  rintro acc eh' ⟨T, rfl, eN, hi, rfl, hT⟩
  have hTl : T.length = dims.toNat := by
    have h1 := congrArg List.length eN
    simp at h1
    omega
  refine ⟨trivial, ?_⟩
  walk_at "go"
  refine comp_map (c := lwT (rs.map (·.w))) (f := fun t : LwT => .bl t.2.2.isNone) trivial (by simp; omega) (fun t ht => asgx_i rfl fun q2 hq2 => ?_) ?_
  · unfold ce_greatest_shifts_2
    walk_at "go"
    refine ⟨_, lateE t.2.2, rfl, rfl, ?_⟩
    walk_at "go"
    cases e : t.2.2 with
    | none => rw [e] at hq2; exact hq2
    | some w => rw [e] at hq2; exact hq2
  rw [List.nil_append]
  walk_at "go"
  refine allS_i (bs := T.map fun t => t.2.2.isNone) (by rw [List.map_map]; rfl) ?_
  walk_at "go"
  cases ha : (T.map fun t => t.2.2.isNone).all id with
  | false =>
    walk_at "go"
    refine k0 ?_
    rw [List.all_eq_false] at ha
    obtain ⟨b, hb, hb2⟩ := ha
    obtain ⟨t, ht, rfl⟩ := List.mem_map.mp hb
    obtain ⟨a, ha, e⟩ := List.getElem_of_mem ht
    have H := hT a t (by rw [List.getElem?_eq_getElem ha, e])
    cases e2 : t.2.2 with
    | none => rw [e2] at hb2; exact absurd rfl hb2
    | some w =>
      rw [e2] at H
      exact ⟨a, by omega, late_bar h H⟩
  | true =>
    have hnone : ∀ t ∈ T, t.2.2 = none := fun t ht => by
      have := List.all_eq_true.mp ha _ (List.mem_map.mpr ⟨t, ht, rfl⟩)
      cases e : t.2.2 with
      | none => rfl
      | some w => rw [e] at this; cases this
    walk_at "go"
    refine dcomp_s ?_
    refine any_i ?_
    refine fzp_i ?_
    walk_at "go"
    refine ⟨_, rfl, rfl, ?_⟩
    refine names_fz rfl ?_
    refine ⟨_, _, rfl, ?_⟩
    intro l hl
    rw [show (rs.map fun r => EV.str r.w) = (rs.map (·.w)).map .str by rw [List.map_map]; rfl]
    refine dc_fold (c := EV.str) (kf := EV.str) (vf := fun w => .tup ((T.map fun t => t.1 w).map .int)) (ky := Sum.inr) (fun _ => rfl) (fun _ => trivial) (fun w hw => ⟨_, rfl, fun o q1 => ⟨fun hq => ?_, fun hq => ?_⟩⟩) (by simp; omega) ?_
    · walk_at "go"
      exact hq
    · unfold ce_greatest_shifts_5
      walk_at "go"
      refine comp_map (c := lwT (rs.map (·.w))) (f := fun t : LwT => .int (t.1 w)) trivial (by simp; omega) (fun t ht => asgx_i rfl fun q2 hq2 => ?_) ?_
      · unfold ce_greatest_shifts_4
        walk_at "go"
        refine ⟨_, .dct (asK .int (fnL (rs.map (·.w)) t.1)), rfl, rfl, ?_⟩
        walk_at "go"
        refine ixd_i (kvs := asK .int (fnL (rs.map (·.w)) t.1)) rfl rfl ?_ hq2
        rw [getA_K, get_fnL hw]; rfl
      walk_at "go"
      rw [List.nil_append, show (T.map fun t => EV.int (t.1 w)) = (T.map fun t => t.1 w).map .int by rw [List.map_map]; rfl]
      exact hq
    rw [fold_put (by rw [List.map_nil, List.nil_append]; exact inr_nodup h.nd), List.nil_append]
    rw [show (rs.map (·.w)).map (fun a => ((Sum.inr a : Key), EV.tup ((T.map fun t => t.1 a).map .int))) = shE (rs.map (·.w)) T by unfold shE asK; rw [List.map_map, List.map_map, List.map_map]; rfl]
    refine k1 T hTl (fun a t e => ?_) l hl
    have H := hT a t e
    rw [hnone t (List.mem_of_getElem? e)] at H
    exact H
theorem gsh_fz2 {S : Addr → Bool} {xc : XC} {eh : Eh} {q : KE} (hS : S = nw eh) (h : SysFit dims md rs) (k0 : (∃ a < dims.toNat, ∃ W, BarW rs a W) → q .non eh)
    (k1 : ∀ T : List LwT, T.length = dims.toNat → (∀ (a : Nat) t, T[a]? = some t → LwOk rs a t.1 t.2.1 none) → q (.dct (shE (rs.map (·.w)) T)) eh) :
    ([sysE dims md rs] ++ []).length = 1 ∧ FZ S fn_greatest_shifts xc ([sysE dims md rs] ++ []) eh q := by
  refine ⟨rfl, ?_⟩
  subst hS
  unfold FZ
  refine gsh_ez h (fun b => ?_) fun T hT hL p hp => ?_
  · exact fin_data (n := 0) .refl rfl (k0 b)
  · rw [drE_new hp, fz_dct (k := 8) (by simp [nw, hp]) eupd_same, fz_shE]
    exact k1 T hT hL
end

/-! ### shifts -/
def sftE (ws : List Str) (σ : Str → List Int) : List (Key × EV) := ws.map fun w => (.inr w, .tup ((σ w).map .int))
theorem sft_get : ∀ {ws : List Str} {σ : Str → List Int} {w : Str}, w ∈ ws → getK (sftE ws σ) (.inr w) = some (.tup ((σ w).map .int))
  | v :: ws, σ, w, h => by
    show (if (Sum.inr v : Key) = .inr w then some (EV.tup ((σ v).map .int)) else getK (sftE ws σ) (.inr w)) = _
    by_cases e : v = w
    · subst e; rw [if_pos rfl]
    · rw [if_neg (fun z => e (Sum.inr.inj z))]
      exact sft_get ((List.mem_cons.mp h).resolve_left fun z => e z.symm)
theorem sft_put {ws : List Str} {σ : Str → List Int} {w : Str} {v : List Int} (h : w ∉ ws) : putKE (sftE ws σ) (.inr w) (.tup (v.map .int)) = sftE (ws ++ [w]) (fun u => if u = w then v else σ u) := by
  have e : sftE ws (fun u => if u = w then v else σ u) = sftE ws σ := List.map_congr_left fun u hu => by
    have : ¬ u = w := fun z => h (by rw [← z]; exact hu)
    simp only [if_neg this]
  unfold putKE
  rw [if_neg]
  · unfold sftE at e ⊢
    rw [List.map_append, e]
    simp
  · simp only [sftE, List.any_map, List.any_eq_true, Function.comp, decide_eq_true_eq, not_exists, not_and]
    intro u hu e
    exact h (Sum.inr.inj e ▸ hu)
theorem fz_sft {S : Addr → Bool} {eh : Eh} {k : Nat} (ws : List Str) (σ : Str → List Int) : ((sftE ws σ).map fun p => (p.1, fz S eh (k + 1) p.2)) = sftE ws σ := by
  unfold sftE
  rw [List.map_map]
  exact List.map_congr_left fun w _ => by simp [Function.comp, fz_tupI]
theorem shift_fz {S : Addr → Bool} {xc : XC} {a : Addr} {s : Int × Int × Int} {ws : List Str} {dims b : Int} {eh : Eh} {q : KE} (hS : S = nw eh) (h : eh a = some (rgO s)) (hs : RgOk b s) (hb : b + 100 ≤ 800000000) (hn : ws.Nodup) (hl : ws.length ≤ 6) (hd : 1 ≤ dims ∧ dims ≤ 3)
    (k : ∀ (σ : Str → List Int) (s' : Int × Int × Int), (∀ w ∈ ws, (σ w).length = dims.toNat) → RgOk (b + 100) s' → q (.dct (sftE ws σ)) (eupd eh a (some (rgO s')))) :
    ([EV.ref a, .lst (ws.map .str), .int dims] ++ []).length = 3 ∧ FZ S fn__law_shift xc ([EV.ref a, .lst (ws.map .str), .int dims] ++ []) eh q := by
  refine ⟨rfl, ?_⟩
  subst hS
  have ha : eh a ≠ none := by rw [h]; simp
  have e : ∀ T : List EV, T = T.map id := fun T => by simp
  unfold FZ fn__law_shift ms__law_shift
  walk_at "go"
  intro p hp
  have hpa : p ≠ a := fun z => by rw [z, h] at hp; cases hp
  walk_at "go"
  refine for_inv (c := .str) (fun L es eh' => ∃ (done : List Str) (σ : Str → List Int) (s' : Int × Int × Int) (c : Int) (z4 : Option EV), ws = done ++ L ∧ (∀ w ∈ done, (σ w).length = dims.toNat) ∧ eh' p = some (.dct (sftE done σ)) ∧ Fr eh a s' eh' ∧ RgOk c s' ∧ c + 4 * L.length ≤ b + 4 * ws.length ∧ es = [some (.ref a), some (.lst (ws.map .str)), some (.int dims), some (.ref p), z4, none]) ?_ ?_ ?_
  · exact ⟨[], fun _ => [], s, b, _, rfl, by simp, eupd_same, Fr.newp ⟨fun _ _ _ => rfl, h⟩ hp hpa, hs, Int.le_refl _, rfl⟩
  · rintro w L es eh' ⟨done, σ, s', c, z4, hw, hσ, hp', hf, hs', hc, rfl⟩
    simp only [List.length_cons] at hc
    have hdl : done.length + 1 ≤ 6 := by have := congrArg List.length hw; rw [List.length_append, List.length_cons] at this; omega
    refine ⟨trivial, asgx_i rfl fun d' _ hk _ _ => ?_⟩
    unfold bd__law_shift_2
    walk_at "go"
    refine ⟨_, rfl, by omega, ?_⟩
    rw [e ((List.range _).map _)]
    refine comp_inv (fun acc L2 eh2 => ∃ (ns : List Int) (s2 : Int × Int × Int) (c2 : Int), acc = ns.map .int ∧ ns.length + L2.length = dims.toNat ∧ eh2 p = some (.dct (sftE done σ)) ∧ Fr eh a s2 eh2 ∧ RgOk c2 s2 ∧ c2 + L2.length ≤ c + dims.toNat) ⟨[], s', c, rfl, by simp, hp', hf, hs', by simp⟩ (by simp; omega) ?_ ?_
    · rintro acc x L2 eh2 ⟨ns, s2, c2, rfl, hns, hp2, hf2, hs2, hc2⟩
      simp only [List.length_cons] at hns hc2
      refine ⟨trivial, _, rfl, fun q' hq => ?_⟩
      unfold ce__law_shift_1
      walk_at "go"
      refine draw_fz rfl hf2.2 hs2 (by omega) (by omega) (by omega) fun v s3 v0 v1 hs3 => ?_
      walk_at "go"
      exact hq _ _ ⟨ns ++ [v - 6], s3, c2 + 1, by simp, by simp; omega, by rw [eupd_ne hpa]; exact hp2, hf2.rg, hs3, by omega⟩
    · rintro acc eh2 ⟨ns, s2, c2, rfl, hns, hp2, hf2, hs2, hc2⟩
      refine ⟨trivial, ?_⟩
      walk_at "go"
      have hwd : w ∉ done := fun z => by
        rw [hw] at hn
        exact (List.nodup_append.mp hn).2.2 w z w (by simp) rfl
      refine ⟨p, _, _, rfl, hp2, rfl, szT (by simp [sftE]; omega), ?_⟩
      rw [sft_put hwd]
      simp only [List.length_nil, Nat.add_zero] at hns hc2
      refine hk _ _ ⟨done ++ [w], _, s2, c2, _, by simp [hw], fun u hu => ?_, eupd_same, hf2.newp hp hpa, hs2, by omega, rfl⟩
      by_cases eu : u = w
      · subst eu; simpa using hns
      · simp only [if_neg eu]
        rcases List.mem_append.mp hu with hu | hu
        · exact hσ u hu
        · exact absurd (List.mem_singleton.mp hu) eu
  · rintro es eh' ⟨done, σ, s', c, z4, hw, hσ, hp', hf, hs', hc, rfl⟩
    rw [List.append_nil] at hw
    subst hw
    refine ⟨trivial, ?_⟩
    walk_at "go"
    rw [hf.dr ha, fz_dct (by simp [nw, hp]) hp', fz_sft]
    exact k σ s' hσ (hs'.mono (by simp only [List.length_nil] at hc; omega))

/-! ### shifted systems -/
def vsh (n : Nat) (v a b : List Int) : List Int := (List.range n).map fun i => v.getD i 0 - a.getD i 0 + b.getD i 0
def shRd (n : Nat) (σ : Str → List Int) (w : Str) (x : Rd) : Rd := ⟨x.t, vsh n x.v (σ w) (σ x.t), x.f⟩
def shR (n : Nat) (σ : Str → List Int) (r : Row) : Row := ⟨r.w, r.n, r.rs.map (shRd n σ r.w)⟩
theorem sh_names (n : Nat) (σ : Str → List Int) (rows : List Row) : (rows.map (shR n σ)).map (·.w) = rows.map (·.w) := by rw [List.map_map]; rfl
theorem sh_fit {dims md : Int} {rows : List Row} (σ : Str → List Int) (h : SysFit dims md rows) : SysFit dims md (rows.map (shR dims.toNat σ)) := by
  have hd := h.d
  refine ⟨h.d, by simpa using h.l, by rw [sh_names]; exact h.nd, fun r hr => ?_, ?_, h.m, fun r hr x hx => ?_⟩
  · obtain ⟨r', hr', rfl⟩ := List.mem_map.mp hr
    have z := h.r r' hr'
    refine ⟨z.w, fun x hx => ?_⟩
    obtain ⟨x', hx', rfl⟩ := List.mem_map.mp hx
    have y := z.rd x' hx'
    exact ⟨y.1, by simp [shRd, vsh]; omega, y.3⟩
  · rw [List.map_map]
    have : ((fun r : Row => r.rs.length) ∘ shR dims.toNat σ) = fun r : Row => r.rs.length := by funext r; simp [shR]
    rw [this]; exact h.t
  · obtain ⟨r', hr', rfl⟩ := List.mem_map.mp hr
    obtain ⟨x', hx', rfl⟩ := List.mem_map.mp hx
    rw [sh_names]
    exact h.tg r' hr' x' hx'
theorem sh_vec {eh : Eh} {q : KE} {σ : List Int} {i n : Nat} (hl : σ.length = n) (hi : i < n) (k : q (.int (σ.getD i 0)) eh) : oIx (.tup (σ.map .int)) (.int (i : Int)) eh q :=
  ix_i (xs := σ.map .int) rfl (at_cells (show σ[i]? = some (σ.getD i 0) by rw [List.getD_eq_getElem?_getD, List.getElem?_eq_getElem (by omega)]; rfl)) k
theorem bsort_i {eh : Eh} {q : KE} {x : EV} {kvs : List (Key × EV)} {ks : List Str} (h : dctE eh x = some kvs) (e : kvs.map (·.1) = ks.map Sum.inr) (hl : ks.length < 64) (k : ∀ ys : List Str, ys.Perm ks → q (.lst (ys.map .str)) eh) : bSortD [x] eh q := ⟨kvs, ks, h, e, hl, fun ys hp _ => k ys hp⟩
theorem shifted_gz {eh0 : Eh} {S : Addr → Bool} {xc : XC} {dims md : Int} {rs : List Row} {ws : List Str} {σ : Str → List Int} {G : EV} {eh : Eh} {q : KE} (hS : drE S eh = eh0) (h : SysFit dims md rs) (hG : ∀ eh', Kp eh eh' → dctE eh' G = some (sftE ws σ)) (hw : ∀ r ∈ rs, r.w ∈ ws) (hw2 : ∀ w ∈ ws, w ∈ rs.map (·.w)) (hl : ws.length ≤ 6) (hσ : ∀ w ∈ ws, (σ w).length = dims.toNat)
    (k : q (sysE dims md (sortR (rs.map (shR dims.toNat σ)))) eh0) : ([sysE dims md rs, G] ++ []).length = 2 ∧ FZ S fn_shifted xc ([sysE dims md rs, G] ++ []) eh q := by
  refine ⟨rfl, ?_⟩
  have hd := h.d
  have hrl := h.l
  have hG0 := hG eh .refl
  have hns : ∀ z, G ≠ .str z := fun z e => by subst e; simp [dctE] at hG0
  have e : ∀ T : List EV, T = T.map id := fun T => by simp
  unfold FZ fn_shifted ms_shifted
  walk_at "go"
  refine ⟨_, .int dims, rfl, by rfl, ?_⟩
  walk_at "go"
  refine ⟨_, rfl, rfl, ?_⟩
  refine names_fz rfl ?_
  walk_at "go"
  refine for_inv (c := fun r : Row => .str r.w) (fun L es eh' => (∀ r ∈ L, r ∈ rs) ∧ eh = eh' ∧ ∃ z3, es = [some (sysE dims md rs), some G, some (.int dims), z3, none, none, none, none, none, none, none]) ⟨fun _ h => h, rfl, _, rfl⟩ ?_ ?_
  · rintro r L es eh' ⟨hL, rfl, z3, rfl⟩
    have hr := hL r (by simp)
    refine ⟨trivial, asgx_i rfl fun d' _ hn _ _ => ?_⟩
    unfold bd_shifted_1
    walk_at "go"
    refine ninD_i (kvs := sftE ws σ) hns hG0 rfl ?_
    rw [sft_get (hw r hr)]
    refine ⟨_, rfl, ?_⟩
    refine cF_i ?_
    walk_at "go"
    refine ixd_i hG0 rfl (sft_get (hw r hr)) ?_
    walk_at "go"
    rw [List.length_map, hσ _ (hw r hr)]
    refine cN_i (fun hne => absurd (show ((dims.toNat : Nat) : Int) = dims by omega) hne) (fun _ => ?_)
    walk_at "go"
    exact hn _ _ ⟨fun x hx => hL x (by simp [hx]), rfl, _, rfl⟩
  · rintro es eh' ⟨_, rfl, z3, rfl⟩
    refine ⟨trivial, ?_⟩
    walk_at "go"
    refine bsort_i hG0 (show (sftE ws σ).map (·.1) = ws.map Sum.inr by unfold sftE; rw [List.map_map]; rfl) (by omega) fun ys hp => ?_
    walk_at "go"
    refine for_inv (c := .str) (fun L es eh' => (∀ w ∈ L, w ∈ rs.map (·.w)) ∧ eh = eh' ∧ ∃ z3, es = [some (sysE dims md rs), some G, some (.int dims), z3, none, none, none, none, none, none, none]) ⟨fun w hw => hw2 w (hp.mem_iff.mp hw), rfl, _, rfl⟩ ?_ ?_
    · rintro w L es eh' ⟨hL, rfl, z3, rfl⟩
      have hw' := hL w (by simp)
      refine ⟨trivial, asgx_i rfl fun d' _ hn _ _ => ?_⟩
      unfold bd_shifted_2
      walk_at "go"
      refine ⟨_, rfl, rfl, ?_⟩
      refine names_fz rfl ?_
      refine in_i (n := 0) true (L := rs.map fun r => .str r.w) rfl rfl (fun z hz => by obtain ⟨c, _, rfl⟩ := List.mem_map.mp hz; rfl) (by decide) (by
        constructor
        · intro _
          obtain ⟨r, hr, rfl⟩ := List.mem_map.mp hw'
          exact List.mem_map.mpr ⟨r, hr, rfl⟩
        · intro _; rfl) ?_
      walk_at "go"
      exact hn _ _ ⟨fun x hx => hL x (by simp [hx]), rfl, _, rfl⟩
    · rintro es eh' ⟨_, rfl, z3, rfl⟩
      refine ⟨trivial, ?_⟩
      walk_at "go"
      intro t ht
      walk_at "go"
      refine ⟨_, rfl, rfl, ?_⟩
      refine names_fz rfl ?_
      walk_at "go"
      refine for_inv (c := fun r : Row => .str r.w) (fun L es eh' => ∃ done, rs = done ++ L ∧ eh' = eupd eh t (some (.lst ((done.map (shR dims.toNat σ)).map rowE))) ∧ ∃ z3 z5 z6 z7 z8 z9 z10, es = [some (sysE dims md rs), some G, some (.int dims), z3, some (.ref t), z5, z6, z7, z8, z9, z10]) ⟨[], rfl, rfl, _, _, _, _, _, _, _, rfl⟩ ?_ ?_
      · rintro r L es eh' ⟨done, hdn, rfl, z3, z5, z6, z7, z8, z9, z10, rfl⟩
        have hr : r ∈ rs := by rw [hdn]; simp
        have hrr : r.rs.length ≤ 12 := Nat.le_trans (le_sum (List.mem_map.mpr ⟨r, hr, rfl⟩)) h.t
        have hdl : done.length ≤ 6 := by have h := congrArg List.length hdn; rw [List.length_append] at h; omega
        refine ⟨trivial, asgx_i rfl fun d' _ hn _ _ => ?_⟩
        unfold bd_shifted_5
        walk_at "go"
        intro p hp
        have hpt : p ≠ t := fun z => by rw [z, eupd_same] at hp; cases hp
        walk_at "go"
        refine ⟨_, rfl, by rfl, ?_⟩
        walk_at "go"
        refine ⟨rfl, ?_⟩
        refine readsM_fz rfl h.nd hr ?_
        walk_at "go"
        have hp0 : eh p = none := by rw [eupd_ne hpt] at hp; exact hp
        refine for_inv (c := rdE) (fun L2 es eh' => ∃ dn, r.rs = dn ++ L2 ∧ eh' = eupd (eupd eh t (some (.lst ((done.map (shR dims.toNat σ)).map rowE)))) p (some (.lst ((dn.map (shRd dims.toNat σ r.w)).map rdE))) ∧ ∃ z6 z7 z8 z9 z10, es = [some (sysE dims md rs), some G, some (.int dims), some (.str r.w), some (.ref t), some (.ref p), z6, z7, z8, z9, z10]) ⟨[], rfl, rfl, _, _, _, _, _, rfl⟩ ?_ ?_
        · rintro x L2 es eh' ⟨dn, hx, rfl, z6, z7, z8, z9, z10, rfl⟩
          have hxm : x ∈ r.rs := by rw [hx]; simp
          have fx := (h.r r hr).rd x hxm
          obtain ⟨rt, hrt, ert⟩ := List.mem_map.mp (h.tg r hr x hxm)
          have hxw : x.t ∈ ws := by rw [← ert]; exact hw rt hrt
          have hdn : dn.length < 12 := by have h := congrArg List.length hx; rw [List.length_append, List.length_cons] at h; omega
          have hGk : dctE (eupd (eupd eh t (some (.lst ((done.map (shR dims.toNat σ)).map rowE)))) p (some (.lst ((dn.map (shRd dims.toNat σ r.w)).map rdE)))) G = some (sftE ws σ) := hG _ fun c hc => by
            rw [eupd_ne (show c ≠ p from fun z => hc (by rw [z]; exact hp0)), eupd_ne (show c ≠ t from fun z => hc (by rw [z]; exact ht))]
          refine ⟨trivial, asgx_i rfl fun d2 _ hn2 _ _ => ?_⟩
          unfold bd_shifted_4
          walk_at "go"
          refine ⟨_, rfl, by omega, ?_⟩
          refine comp_map (c := fun i : Nat => EV.int (i : Int)) (f := fun i : Nat => .int (x.v.getD i 0 - (σ r.w).getD i 0 + (σ x.t).getD i 0)) trivial (by simp; omega) (fun i hi => asgx_i rfl fun q' hq' => ?_) ?_
          · have hi' := List.mem_range.mp hi
            unfold ce_shifted_3
            walk_at "go"
            refine sh_vec (n := dims.toNat) (by have := fx.l; omega) hi' ?_
            walk_at "go"
            refine ixd_i hGk rfl (sft_get (hw r hr)) ?_
            walk_at "go"
            refine sh_vec (hσ _ (hw r hr)) hi' ?_
            walk_at "go"
            refine ixd_i hGk rfl (sft_get hxw) ?_
            walk_at "go"
            refine sh_vec (hσ _ hxw) hi' ?_
            walk_at "go"
            exact hq'
          walk_at "go"
          refine ⟨⟨(dn.map (shRd dims.toNat σ r.w)).map rdE, by simp only [lstE, eupd_same]⟩, ?_⟩
          walk_at "go"
          refine ⟨(dn.map (shRd dims.toNat σ r.w)).map rdE, eupd_same, szT (by simp; omega), ?_⟩
          rw [eupd_eupd]
          refine hn2 _ _ ⟨dn ++ [x], by simp [hx], ?_, _, _, _, _, _, rfl⟩
          simp [shRd, vsh, rdE, List.map_map, Function.comp_def]
        · rintro es eh' ⟨dn, hx, rfl, z6, z7, z8, z9, z10, rfl⟩
          rw [List.append_nil] at hx
          subst hx
          refine ⟨trivial, ?_⟩
          walk_at "go"
          refine fzV_i rfl eupd_same ?_
          rw [eupd_eupd, eupd_self hp]
          walk_at "go"
          refine ⟨⟨(done.map (shR dims.toNat σ)).map rowE, by simp only [lstE, eupd_same]⟩, ?_⟩
          walk_at "go"
          refine ⟨_, rfl, by rfl, ?_⟩
          walk_at "go"
          refine ⟨rfl, ?_⟩
          refine const_fz rfl h.nd hr ?_
          walk_at "go"
          refine ⟨(done.map (shR dims.toNat σ)).map rowE, eupd_same, szT (by simp; omega), ?_⟩
          rw [eupd_eupd]
          refine hn _ _ ⟨done ++ [r], by simp [hdn], ?_, _, _, _, _, _, _, _, rfl⟩
          simp [shR, rowE]
      · rintro es eh' ⟨done, hdn, rfl, z3, z5, z6, z7, z8, z9, z10, rfl⟩
        rw [List.append_nil] at hdn
        subst hdn
        refine ⟨trivial, ?_⟩
        walk_at "go"
        refine fzV_i rfl eupd_same ?_
        rw [show eupd (eupd eh t (some (.lst ((rs.map (shR dims.toNat σ)).map rowE)))) t none = eh by rw [eupd_eupd]; exact eupd_self ht]
        walk_at "go"
        refine ⟨_, rfl, rfl, ?_⟩
        refine mod_fz rfl ?_
        walk_at "go"
        refine ⟨rfl, ?_⟩
        refine init_mz rfl (sh_fit σ h) ?_
        show q (fz S eh 9 (sysE dims md (sortR (rs.map (shR dims.toNat σ))))) (drE S eh)
        rw [fz_sys, hS]
        exact k
theorem shifted_fz {S : Addr → Bool} {xc : XC} {dims md : Int} {rs : List Row} {ws : List Str} {σ : Str → List Int} {G : EV} {eh : Eh} {q : KE} (hS : S = nw eh) (h : SysFit dims md rs) (hG : ∀ eh', Kp eh eh' → dctE eh' G = some (sftE ws σ)) (hw : ∀ r ∈ rs, r.w ∈ ws) (hw2 : ∀ w ∈ ws, w ∈ rs.map (·.w)) (hl : ws.length ≤ 6) (hσ : ∀ w ∈ ws, (σ w).length = dims.toNat)
    (k : q (sysE dims md (sortR (rs.map (shR dims.toNat σ)))) eh) : ([sysE dims md rs, G] ++ []).length = 2 ∧ FZ S fn_shifted xc ([sysE dims md rs, G] ++ []) eh q :=
  shifted_gz (xc := xc) (by rw [hS]; exact drE_self) h hG hw hw2 hl hσ k

/-! ### what is stuck, said by weights -/
theorem sum_filter {α : Type} {f : α → Int} {p : α → Bool} : ∀ {l : List α}, (∀ x ∈ l, p x = false → f x = 0) → ((l.filter p).map f).sum = (l.map f).sum
  | [], _ => rfl
  | x :: l, h => by
    have ih := sum_filter (l := l) fun y hy => h y (by simp [hy])
    cases hp : p x with
    | true => rw [List.filter_cons_of_pos hp, List.map_cons, List.map_cons, List.sum_cons, List.sum_cons, ih]
    | false =>
      rw [List.filter_cons_of_neg (by rw [hp]; decide), List.map_cons, List.sum_cons, ih, h x (by simp) hp]; omega
/-- tables that reads of a kind join -/
inductive CnP (tg : Str × Int → Str) (P : Str × Int → Prop) : Str → Str → Prop
  | refl {w : Str} : CnP tg P w w
  | fwd {x : Str × Int} {w : Str} : P x → CnP tg P (tg x) w → CnP tg P x.1 w
  | bwd {x : Str × Int} {w : Str} : P x → CnP tg P x.1 w → CnP tg P (tg x) w
theorem CnP.trans {tg : Str × Int → Str} {P : Str × Int → Prop} {a b c : Str} (h : CnP tg P a b) (k : CnP tg P b c) : CnP tg P a c := by
  induction h with
  | refl => exact k
  | fwd hx _ ih => exact .fwd hx (ih k)
  | bwd hx _ ih => exact .bwd hx (ih k)
theorem CnP.symm {tg : Str × Int → Str} {P : Str × Int → Prop} {a b : Str} (h : CnP tg P a b) : CnP tg P b a := by
  induction h with
  | refl => exact .refl
  | fwd hx _ ih => exact ih.trans (.bwd hx .refl)
  | bwd hx _ ih => exact ih.trans (.fwd hx .refl)
theorem CnP.mono {tg : Str × Int → Str} {P Q : Str × Int → Prop} (i : ∀ x, P x → Q x) {a b : Str} (h : CnP tg P a b) : CnP tg Q a b := by
  induction h with
  | refl => exact .refl
  | fwd hx _ ih => exact .fwd (i _ hx) ih
  | bwd hx _ ih => exact .bwd (i _ hx) ih
theorem filter_ndS : ∀ {ns : List Str} {b : Str}, ns.Nodup → b ∈ ns → ns.filter (fun c => decide (c = b)) = [b]
  | c :: ns, b, hn, h => by
    rw [List.nodup_cons] at hn
    rcases List.mem_cons.mp h with rfl | h
    · rw [List.filter_cons_of_pos (by simp)]
      congr 1
      exact List.filter_eq_nil_iff.mpr fun y hy e => hn.1 (by rw [← (by simpa using e : y = b)]; exact hy)
    · have : c ≠ b := fun e => hn.1 (e ▸ h)
      rw [List.filter_cons_of_neg (by simpa using this)]
      exact filter_ndS hn.2 h
theorem one_of {ns : List Str} (hn : ns.Nodup) {b : Str} (hb : b ∈ ns) (h : Str → Int) : (ns.map fun c => h c * (if b = c then 1 else 0)).sum = h b := by
  rw [← sum_filter (p := fun c => decide (b = c)) fun c _ hp => by rw [if_neg (by simpa using hp)]; omega]
  have : ns.filter (fun c => decide (b = c)) = [b] := by
    have := filter_ndS hn hb
    rw [← this]
    exact List.filter_congr fun c _ => decide_eq_decide.mpr ⟨fun e => e.symm, fun e => e.symm⟩
  rw [this]
  simp
section
variable {dims md : Int} {rs : List Row} {X : Nat}
end

/-! ### potentials where no round has a sum below 0 (no program) -/
section
variable {tg : Str × Int → Str} {c : Str × Int → Int} {L : List (Str × Int)}
theorem dup_split {W : List (Str × Int)} (hn : ¬ (W.map (·.1)).Nodup) : ∃ P1 x P2 x' P3, W = P1 ++ x :: (P2 ++ x' :: P3) ∧ x.1 = x'.1 := by
  induction W with
  | nil => exact absurd List.nodup_nil hn
  | cons x W ih =>
    rw [List.map_cons, List.nodup_cons] at hn
    by_cases h : x.1 ∈ W.map (·.1)
    · obtain ⟨x', hx', e⟩ := List.mem_map.mp h
      obtain ⟨P2, P3, rfl⟩ := List.append_of_mem hx'
      exact ⟨[], x, P2, x', P3, rfl, e.symm⟩
    · obtain ⟨P1, z, P2, z', P3, rfl, e⟩ := ih fun h2 => hn ⟨h, h2⟩
      exact ⟨x :: P1, z, P2, z', P3, rfl, e⟩
/-- a walk has a simple one between the same ends whose sum is no greater -/
theorem simple_le (ng : ∀ (W : List (Str × Int)) (y : Str), W ≠ [] → (∀ x ∈ W, x ∈ L) → isPath (fun x : Str × Int => x.1) tg y W y → 0 ≤ (W.map c).sum) :
    ∀ (n : Nat) {W : List (Str × Int)} {y t : Str}, W.length ≤ n → (∀ x ∈ W, x ∈ L) → isPath (fun x : Str × Int => x.1) tg y W t → ∃ V, (∀ x ∈ V, x ∈ L) ∧ isPath (fun x : Str × Int => x.1) tg y V t ∧ (V.map c).sum ≤ (W.map c).sum ∧ (V.map (·.1)).Nodup
  | 0, W, y, t, hl, hL, hp => ⟨W, hL, hp, Int.le_refl _, by rw [List.length_eq_zero_iff.mp (Nat.le_zero.mp hl)]; exact List.nodup_nil⟩
  | n + 1, W, y, t, hl, hL, hp => by
    by_cases hn : (W.map (·.1)).Nodup
    · exact ⟨W, hL, hp, Int.le_refl _, hn⟩
    · obtain ⟨P1, x, P2, x', P3, rfl, e⟩ := dup_split hn
      obtain ⟨v, p1, p2⟩ := path_split hp
      have hv : x.1 = v := p2.1
      obtain ⟨u, p3, p4⟩ := path_split p2.2
      have hu : x'.1 = u := p4.1
      have q1 : isPath (fun x : Str × Int => x.1) tg x.1 (x :: P2) x.1 := ⟨rfl, by rw [e, hu]; exact p3⟩
      have q2 : isPath (fun x : Str × Int => x.1) tg y (P1 ++ x' :: P3) t := path_cat p1 ⟨by show x'.1 = v; rw [← e]; exact hv, p4.2⟩
      have sm : ((P1 ++ x :: (P2 ++ x' :: P3)).map c).sum = ((x :: P2).map c).sum + ((P1 ++ x' :: P3).map c).sum := by
        simp only [List.map_append, List.map_cons, List.sum_append, List.sum_cons]; omega
      simp only [List.length_append, List.length_cons] at hl
      have r1 := ng (x :: P2) x.1 (by simp) (fun z hz => hL z (by
        rcases List.mem_cons.mp hz with h | h <;> simp [h])) q1
      obtain ⟨V, v1, v2, v3, v4⟩ := simple_le ng n (W := P1 ++ x' :: P3) (by simp only [List.length_append, List.length_cons]; omega) (fun z hz => hL z (by
        rcases List.mem_append.mp hz with h | h
        · simp [h]
        · rcases List.mem_cons.mp h with h | h <;> simp [h])) q2
      exact ⟨V, v1, v2, by rw [sm]; omega, v4⟩
end

/-! ### rows that ascend are sorted -/
theorem sortR_asc {rows : List Row} (hn : (rows.map (·.w)).Nodup) (h : Asc (rows.map (·.w))) : sortR rows = rows :=
  List.Perm.eq_of_pairwise (le := fun r r' : Row => ¬ r'.w.cps.toList < r.w.cps.toList) (fun a b ha hb h1 h2 => row_uniq hn ((sortR_perm rows).mem_iff.mp ha) hb (str_le h1 h2)) (List.pairwise_map.mp (asc_sort rows)) (List.pairwise_map.mp h) (sortR_perm rows)

/-! ### k30: least sums over simple walks (no program) -/
section
variable {tg : Str × Int → Str} {c : Str × Int → Int} {L : List (Str × Int)}
def wyN (tg : Str × Int → Str) (t : Str) (W : List (Str × Int)) : List Str := t :: W.map tg
structure Spl (L : List (Str × Int)) (tg : Str × Int → Str) (t : Str) (W : List (Str × Int)) : Prop where
  rd : ∀ x ∈ W, x ∈ L
  pa : ∃ u, isPath (fun x : Str × Int => x.1) tg t W u
  nd : (wyN tg t W).Nodup
theorem path_names : ∀ {W : List (Str × Int)} {t u : Str}, isPath (fun x : Str × Int => x.1) tg t W u → wyN tg t W = W.map (·.1) ++ [u]
  | [], t, u, h => by cases h; rfl
  | x :: W, t, u, h => by
    have ih := path_names (W := W) h.2
    have e : x.1 = t := h.1
    show t :: (wyN tg (tg x) W) = _
    rw [ih, ← e]; rfl
theorem Spl.nil {t : Str} : Spl L tg t [] := ⟨by simp, ⟨t, rfl⟩, by simp [wyN]⟩
theorem spl_snoc {t u : Str} {W : List (Str × Int)} {x : Str × Int} (h : Spl L tg t W) (hu : isPath (fun x : Str × Int => x.1) tg t W u) (hx : x ∈ L) (e : x.1 = u) (n : tg x ∉ wyN tg t W) : Spl L tg t (W ++ [x]) where
  rd := fun y hy => by
    rcases List.mem_append.mp hy with hy | hy
    · exact h.rd y hy
    · rw [List.mem_singleton.mp hy]; exact hx
  pa := ⟨tg x, path_cat hu ⟨e, rfl⟩⟩
  nd := by
    have e2 : wyN tg t (W ++ [x]) = wyN tg t W ++ [tg x] := by unfold wyN; simp
    rw [e2]
    refine List.nodup_append.mpr ⟨h.nd, by simp, fun a ha b hb z => n ?_⟩
    rw [← List.mem_singleton.mp hb, ← z]; exact ha
/-- how a longer simple walk goes on -/
theorem spl_pre {t u : Str} {W V : List (Str × Int)} (hV : Spl L tg t V) (hu : isPath (fun x : Str × Int => x.1) tg t W u) (h : W <+: V) : W = V ∨ ∃ x ∈ L, x.1 = u ∧ tg x ∉ wyN tg t W ∧ W ++ [x] <+: V := by
  obtain ⟨s, rfl⟩ := h
  cases s with
  | nil => left; simp
  | cons x s =>
    right
    obtain ⟨v, hv⟩ := hV.pa
    obtain ⟨w, p1, p2⟩ := path_split hv
    have ew := path_end hu p1
    subst ew
    refine ⟨x, hV.rd x (by simp), p2.1, fun z => ?_, s, by simp⟩
    have nd := hV.nd
    have e2 : wyN tg t (W ++ x :: s) = wyN tg t W ++ tg x :: s.map tg := by unfold wyN; simp
    rw [e2] at nd
    exact (List.nodup_append.mp nd).2.2 _ z _ (by simp) rfl
theorem simple_ex (ng : ∀ (W : List (Str × Int)) (y : Str), W ≠ [] → (∀ x ∈ W, x ∈ L) → isPath (fun x : Str × Int => x.1) tg y W y → 0 ≤ (W.map c).sum) {P : List (Str × Int)} {t u : Str} (hP : ∀ x ∈ P, x ∈ L) (hp : isPath (fun x : Str × Int => x.1) tg t P u) : ∃ V, Spl L tg t V ∧ (V.map c).sum ≤ (P.map c).sum := by
  obtain ⟨V, v1, v2, v3, v4⟩ := simple_le ng P.length (Nat.le_refl _) hP hp
  by_cases hu : u ∈ V.map (·.1)
  · obtain ⟨x, hx, e⟩ := List.mem_map.mp hu
    obtain ⟨V1, V2, rfl⟩ := List.append_of_mem hx
    obtain ⟨w, p1, p2⟩ := path_split v2
    have ew : x.1 = w := p2.1
    have cl : isPath (fun x : Str × Int => x.1) tg x.1 (x :: V2) x.1 := ⟨rfl, by rw [e]; exact p2.2⟩
    have g := ng (x :: V2) x.1 (by simp) (fun y hy => v1 y (by simp only [List.mem_append]; exact .inr hy)) cl
    refine ⟨V1, ⟨fun y hy => v1 y (by simp [hy]), ⟨w, p1⟩, ?_⟩, ?_⟩
    · rw [path_names p1, ← ew]
      rw [List.map_append, List.map_cons] at v4
      obtain ⟨n1, _, n3⟩ := List.nodup_append.mp v4
      exact List.nodup_append.mpr ⟨n1, by simp, fun a ha b hb => n3 a ha b (by simp at hb ⊢; exact .inl hb)⟩
    · rw [List.map_append, List.sum_append] at v3
      omega
  · refine ⟨V, ⟨v1, ⟨u, v2⟩, ?_⟩, v3⟩
    rw [path_names v2]
    exact List.nodup_append.mpr ⟨v4, by simp, fun a ha b hb z => hu (by rw [← List.mem_singleton.mp hb, ← z]; exact ha)⟩
/-- the least sum over simple walks -/
structure LeastS (L : List (Str × Int)) (tg : Str × Int → Str) (c : Str × Int → Int) (t : Str) (m : Int) : Prop where
  ex : ∃ W, Spl L tg t W ∧ m = (W.map c).sum
  le : ∀ V, Spl L tg t V → m ≤ (V.map c).sum
/-- what is known in the search -/
structure LsI (L : List (Str × Int)) (tg : Str × Int → Str) (c : Str × Int → Int) (t : Str) (m : Int) (st : List (List (Str × Int))) : Prop where
  sp : ∀ W ∈ st, Spl L tg t W
  ex : ∃ W, Spl L tg t W ∧ m = (W.map c).sum
  le : ∀ V, Spl L tg t V → m ≤ (V.map c).sum ∨ ∃ W ∈ st, W <+: V
theorem LsI.start {t : Str} : LsI L tg c t 0 [[]] := ⟨fun W h => by rw [List.mem_singleton.mp h]; exact .nil, ⟨[], .nil, rfl⟩, fun V _ => .inr ⟨[], by simp, List.nil_prefix⟩⟩
theorem LsI.done {t : Str} {m : Int} (h : LsI L tg c t m []) : LeastS L tg c t m := ⟨h.ex, fun V hV => by
  rcases h.le V hV with g | ⟨W, hW, _⟩
  · exact g
  · cases hW⟩
def onS (L : List (Str × Int)) (tg : Str × Int → Str) (t u : Str) (W : List (Str × Int)) : List (List (Str × Int)) := (L.filter fun x => decide (x.1 = u ∧ tg x ∉ wyN tg t W)).map fun x => W ++ [x]
theorem LsI.step {t u : Str} {m : Int} {st : List (List (Str × Int))} {W : List (Str × Int)} (h : LsI L tg c t m (st ++ [W])) (hu : isPath (fun x : Str × Int => x.1) tg t W u) : LsI L tg c t (if (W.map c).sum < m then (W.map c).sum else m) (st ++ onS L tg t u W) where
  sp := fun V hV => by
    rcases List.mem_append.mp hV with hV | hV
    · exact h.sp V (by simp [hV])
    · obtain ⟨x, hx, rfl⟩ := List.mem_map.mp hV
      obtain ⟨h1, h2⟩ := List.mem_filter.mp hx
      have h2 := of_decide_eq_true h2
      exact spl_snoc (h.sp W (by simp)) hu h1 h2.1 h2.2
  ex := by
    by_cases g : (W.map c).sum < m
    · rw [if_pos g]; exact ⟨W, h.sp W (by simp), rfl⟩
    · rw [if_neg g]; exact h.ex
  le := fun V hV => by
    rcases h.le V hV with g | ⟨W', hW', hp⟩
    · left; split <;> omega
    · rcases List.mem_append.mp hW' with hW' | hW'
      · exact .inr ⟨W', by simp [hW'], hp⟩
      · rw [List.mem_singleton.mp hW'] at hp
        rcases spl_pre hV hu hp with e | ⟨x, hx, e1, e2, e3⟩
        · left; rw [← e]; split <;> omega
        · exact .inr ⟨W ++ [x], List.mem_append.mpr (.inr (List.mem_map.mpr ⟨x, List.mem_filter.mpr ⟨hx, decide_eq_true ⟨e1, e2⟩⟩, rfl⟩)), e3⟩
/-- how much is left to do -/
def lfW (W : List (Str × Int)) : Nat := 13 ^ (6 - W.length)
def lfS (st : List (List (Str × Int))) : Nat := (st.map lfW).sum
theorem lfS_app (a b : List (List (Str × Int))) : lfS (a ++ b) = lfS a + lfS b := by unfold lfS; rw [List.map_append, List.sum_append]
theorem lfS_on {t u : Str} {W : List (Str × Int)} (hL : L.length ≤ 12) (hW : W.length ≤ 5) : lfS (onS L tg t u W) < lfW W := by
  have key : ∀ M : List (Str × Int), lfS (M.map fun x => W ++ [x]) = M.length * 13 ^ (5 - W.length) := fun M => by
    induction M with
    | nil => simp [lfS]
    | cons x M ih =>
      have e : lfS ((x :: M).map fun x => W ++ [x]) = lfW (W ++ [x]) + lfS (M.map fun x => W ++ [x]) := by unfold lfS; rw [List.map_cons, List.map_cons, List.sum_cons]
      rw [e, ih]
      unfold lfW
      rw [List.length_append, List.length_cons, List.length_nil, List.length_cons, Nat.add_mul, Nat.one_mul, show 6 - (W.length + (0 + 1)) = 5 - W.length by omega]
      omega
  unfold onS
  rw [key]
  have h1 := List.length_filter_le (fun x => decide (x.1 = u ∧ tg x ∉ wyN tg t W)) L
  have h2 : (L.filter fun x => decide (x.1 = u ∧ tg x ∉ wyN tg t W)).length * 13 ^ (5 - W.length) ≤ 12 * 13 ^ (5 - W.length) := Nat.mul_le_mul_right _ (by omega)
  unfold lfW
  rw [show 6 - W.length = (5 - W.length) + 1 by omega, Nat.pow_succ]
  have h3 : 0 < 13 ^ (5 - W.length) := Nat.pow_pos (by decide)
  omega
theorem lfS_len : ∀ st : List (List (Str × Int)), st.length ≤ lfS st
  | [] => Nat.zero_le _
  | W :: st => by
    have := lfS_len st
    have e : lfS (W :: st) = lfW W + lfS st := by unfold lfS; rw [List.map_cons, List.sum_cons]
    have h3 : 0 < lfW W := Nat.pow_pos (by decide)
    rw [e, List.length_cons]; omega
theorem spl_len {t : Str} {W : List (Str × Int)} {ws : List Str} (h : Spl L tg t W) (hn : ∀ x ∈ L, tg x ∈ ws) (ht : t ∈ ws) (hl : ws.length ≤ 6) : W.length ≤ 5 := by
  have := nodup_leZ h.nd (M := ws) fun w hw => by
    rcases List.mem_cons.mp hw with rfl | hw
    · exact ht
    · obtain ⟨x, hx, rfl⟩ := List.mem_map.mp hw
      exact hn x (h.rd x hx)
  unfold wyN at this
  rw [List.length_cons, List.length_map] at this
  omega
end
/-- the least sum is the low that a Lowering tells -/
theorem least_low {rs : List Row} {a : Nat} {low : Str → Int} {M : List (Str × (Str × Int))} (H : LwOk rs a low M none) {t : Str} {m : Int} (h : LeastS (rdI rs) (tgI rs) (fun x => (vcI rs x).getD a 0) t m) : m = low t := by
  obtain ⟨np, le⟩ := H.lows
  obtain ⟨u, I, _, _⟩ := H.i
  have ng : ∀ (W : List (Str × Int)) (y : Str), W ≠ [] → (∀ x ∈ W, x ∈ rdI rs) → isPath (fun x : Str × Int => x.1) (tgI rs) y W y → 0 ≤ (W.map fun x => (vcI rs x).getD a 0).sum := fun W y _ hW hp => by
    have := path_le (c := fun x => (vcI rs x).getD a 0) le hp hW
    omega
  obtain ⟨W, hW, e⟩ := h.ex
  obtain ⟨v, hv⟩ := hW.pa
  have h1 := path_le (c := fun x => (vcI rs x).getD a 0) le hv hW.rd
  have h2 := np v
  obtain ⟨P, s, p1, p2, p3⟩ := I.wk t
  obtain ⟨V, hV, hs⟩ := simple_ex (c := fun x => (vcI rs x).getD a 0) ng p2 p1
  have h3 := h.le V hV
  omega

/-! ### k30: the law's own lows -/
def waE (tg : Str × Int → Str) (c : Str × Int → Int) (t : Str) (W : List (Str × Int)) : EV := .tup [.lst ((wyN tg t W).map .str), .int (W.map c).sum]
def rwE (rs : List Row) (x : Str × Int) : EV := knE (x, rdOf rs x)
theorem rdT_I {rs : List Row} (hn : (rs.map (·.w)).Nodup) : rdT rs = (rdI rs).map fun x => (x, rdOf rs x) := by
  rw [← rdT_fst, List.map_map]
  refine (List.map_id _).symm.trans (List.map_congr_left fun z hz => ?_)
  show z = (z.1, rdOf rs z.1)
  rw [(rdT_at hn hz).2]
theorem put_fnN {ws : List Str} {f : Str → Int} {w : Str} {v : Int} (h : w ∉ ws) : putKE (asK EV.int (fnL ws f)) (.inr w) (.int v) = asK EV.int (fnL (ws ++ [w]) (updF f w v)) := by
  have e : fnL (ws ++ [w]) (updF f w v) = fnL ws f ++ [(w, v)] := by
    unfold fnL
    rw [List.map_append]
    congr 1
    · exact List.map_congr_left fun u hu => by rw [updF_ne fun z => h (by rw [← z]; exact hu)]
    · simp [updF]
  rw [e]
  unfold putKE asK fnL
  rw [if_neg]
  · simp
  · simp only [List.any_map, List.any_eq_true, Function.comp, decide_eq_true_eq, not_exists, not_and]
    intro u hu e
    exact h (Sum.inr.inj e ▸ hu)
section
variable {rs : List Row} {a : Nat} {dims md : Int}
structure LwQ (rs : List Row) (a : Nat) (eh0 eh : Eh) (p w : Addr) (ds : List Str) (f : Str → Int) (t : Str) (st : List (List (Str × Int))) : Prop where
  hp : eh p = some (.dct (asK .int (fnL ds f)))
  hw : eh w = some (.lst (st.map (waE (tgI rs) (fun x => (vcI rs x).getD a 0) t)))
  ne : p ≠ w
  p0 : eh0 p = none
  w0 : eh0 w = none
  kp : Kp eh0 eh
theorem lows_while {xc : XC} {d : Dn} {t : Str} {ds : List Str} {f : Str → Int} {p w : Addr} {eh0 eh : Eh} {z1 z6 z7 z8 : Option EV} (h : SysFit dims md rs) (ha : a < dims.toNat) (htw : t ∈ rs.map (·.w)) (ht : t ∈ ds) (hds : ds.length ≤ 100) (H : LwQ rs a eh0 eh p w ds f t [[]]) (hf : f t = 0)
    (k : ∀ (f2 : Str → Int) eh1 z6 z7 z8, LwQ rs a eh0 eh1 p w ds f2 t [] → LeastS (rdI rs) (tgI rs) (fun x => (vcI rs x).getD a 0) t (f2 t) → (∀ u, u ≠ t → f2 u = f u) → d.nx [some (.lst ((rdI rs).map (rwE rs))), z1, some (.int (a : Nat)), some (.ref p), some (.str t), some (.ref w), z6, z7, z8] eh1) :
    sWhile (tVal (mOp (cEq true) (mVar 5) (mLst aNil))) bd__law_lows_2 xc d [some (.lst ((rdI rs).map (rwE rs))), z1, some (.int (a : Nat)), some (.ref p), some (.str t), some (.ref w), z6, z7, z8] eh := by
  have hsz : 6000000 ≤ sizeLine := by decide
  have r6 := h.l
  have hL : (rdI rs).length ≤ 12 := by rw [rdI_len]; exact h.t
  have tgw : ∀ x ∈ rdI rs, tgI rs x ∈ rs.map (·.w) := fun x hx => (rdI_fit h hx).2.1
  refine while_inv (fun n es eh' => ∃ (f2 : Str → Int) (st : List (List (Str × Int))) (z6 z7 z8 : Option EV), LwQ rs a eh0 eh' p w ds f2 t st ∧ LsI (rdI rs) (tgI rs) (fun x => (vcI rs x).getD a 0) t (f2 t) st ∧ (∀ u, u ≠ t → f2 u = f u) ∧ lfS st = n ∧ lfS st ≤ 5000000 ∧ es = [some (.lst ((rdI rs).map (rwE rs))), z1, some (.int (a : Nat)), some (.ref p), some (.str t), some (.ref w), z6, z7, z8]) (lfS [[]]) ⟨f, [[]], z6, z7, z8, H, by rw [hf]; exact .start, fun _ _ => rfl, rfl, by decide, rfl⟩ ?_
  rintro n es eh' ⟨f2, st, z6, z7, z8, H, I, hfu, hn, hmx, rfl⟩ qt hq
  have okw : ∀ W, okD 2 (waE (tgI rs) (fun x => (vcI rs x).getD a 0) t W) = true := fun W => by
    show [EV.lst ((wyN (tgI rs) t W).map .str), .int _].all (okD 1) = true
    have e1 : okD 1 (.lst ((wyN (tgI rs) t W).map .str)) = true := okD_map fun _ _ => rfl
    simp only [List.all_cons, List.all_nil, Bool.and_true, e1]; rfl
  walk_at "go"
  refine eq_i (n := 3) (m := 1) (x' := .lst (st.map (waE (tgI rs) (fun x => (vcI rs x).getD a 0) t))) (y' := .lst []) (decide (st = [])) (fro_ref H.hw) rfl (okD_map fun p _ => okw p) rfl (by decide) (by decide) (by cases st <;> simp) ?_
  refine ⟨_, rfl, ?_⟩
  rw [Bool.true_xor]
  by_cases hst : st = []
  · rw [decide_eq_true hst]
    refine hq _ _ (fun z => nomatch z) fun _ => ?_
    subst hst
    exact k f2 eh' z6 z7 z8 H I.done hfu
  rw [decide_eq_false hst]
  refine hq _ _ (fun _ d' hrt hnx _ _ => ?_) fun z => nomatch z
  obtain ⟨st1, W, rfl⟩ : ∃ st1 W, st = st1 ++ [W] := ⟨st.dropLast, st.getLast hst, (List.dropLast_concat_getLast hst).symm⟩
  have hW := I.sp W (by simp)
  obtain ⟨u, hu⟩ := hW.pa
  have hWl := spl_len hW tgw htw (by rw [List.length_map]; omega)
  rw [lfS_app] at hn hmx
  have e1 : lfS [W] = lfW W := by unfold lfS; simp
  rw [e1] at hn hmx
  unfold bd__law_lows_2
  walk_at "go"
  refine ⟨isLst_ref H.hw, ?_⟩
  walk_at "go"
  refine ⟨st1.map (waE (tgI rs) (fun x => (vcI rs x).getD a 0) t), waE (tgI rs) (fun x => (vcI rs x).getD a 0) t W, by rw [H.hw, List.map_append]; rfl, ?_⟩
  have H1 : LwQ rs a eh0 (eupd eh' w (some (.lst (st1.map (waE (tgI rs) (fun x => (vcI rs x).getD a 0) t))))) p w ds f2 t st1 := ⟨by rw [eupd_ne H.ne]; exact H.hp, eupd_same, H.ne, H.p0, H.w0, H.kp.set H.w0⟩
  generalize eupd eh' w (some (.lst (st1.map (waE (tgI rs) (fun x => (vcI rs x).getD a 0) t)))) = eh1 at H1
  clear H
  refine ⟨_, rfl, ?_⟩
  walk_at "go"
  have gk : getK (asK EV.int (fnL ds f2)) (.inr t) = some (.int (f2 t)) := by rw [getA_K, get_fnL ht]; rfl
  refine ixd_i (kvs := asK .int (fnL ds f2)) (by simp only [dctE, H1.hp]) rfl gk ?_
  walk_at "go"
  refine ⟨p, _, .inr t, rfl, H1.hp, rfl, szT (by unfold asK fnL; rw [List.length_map, List.length_map]; omega), ?_⟩
  rw [putA_K, put_fnL ht]
  generalize hm' : (if (W.map fun x => (vcI rs x).getD a 0).sum < f2 t then (W.map fun x => (vcI rs x).getD a 0).sum else f2 t) = m'
  have I2 := I.step hu
  rw [hm'] at I2
  have H2 : LwQ rs a eh0 (eupd eh1 p (some (.dct (asK .int (fnL ds (updF f2 t m')))))) p w ds (updF f2 t m') t st1 := ⟨eupd_same, by rw [eupd_ne H1.ne.symm]; exact H1.hw, H1.ne, H1.p0, H1.w0, H1.kp.set H1.p0⟩
  generalize eupd eh1 p (some (.dct (asK .int (fnL ds (updF f2 t m'))))) = eh2 at H2
  clear H1
  have ft : updF f2 t m' t = m' := updF_same
  have lst : atI ((wyN (tgI rs) t W).map EV.str) (-1) = some (.str u) := by rw [path_names hu, List.map_append]; exact at_last
  have on1 := lfS_on (tg := tgI rs) (L := rdI rs) (t := t) (u := u) (W := W) hL hWl
  have ln1 := lfS_len st1
  walk_at "go"
  refine for_inv (c := rwE rs) (L := rdI rs) (fun L es eh3 => ∃ (dn : List (Str × Int)) (z8 : Option EV), dn ++ L = rdI rs ∧ LwQ rs a eh0 eh3 p w ds (updF f2 t m') t (st1 ++ onS dn (tgI rs) t u W) ∧ es = [some (.lst ((rdI rs).map (rwE rs))), z1, some (.int (a : Nat)), some (.ref p), some (.str t), some (.ref w), some (.lst ((wyN (tgI rs) t W).map .str)), some (.int (W.map fun x => (vcI rs x).getD a 0).sum), z8]) ⟨[], _, rfl, by unfold onS; simpa using H2, rfl⟩ ?_ ?_
  · rintro x L es eh3 ⟨dn, z8, hdn, H3, rfl⟩
    have hx : x ∈ rdI rs := by rw [← hdn]; simp
    obtain ⟨f1, _, _⟩ := rdI_fit h hx
    have dl : dn.length ≤ 12 := by have := congrArg List.length hdn; simp at this; omega
    have onl : (onS dn (tgI rs) t u W).length ≤ 12 := by unfold onS; rw [List.length_map]; exact Nat.le_trans (List.length_filter_le _ _) dl
    have app : onS (dn ++ [x]) (tgI rs) t u W = onS dn (tgI rs) t u W ++ onS [x] (tgI rs) t u W := by unfold onS; rw [List.filter_append, List.map_append]
    refine ⟨trivial, _, rfl, fun d2 hrt2 hnx2 _ _ => ?_⟩
    have skip : ¬ (x.1 = u ∧ tgI rs x ∉ wyN (tgI rs) t W) → ∀ z8, d2.nx [some (.lst ((rdI rs).map (rwE rs))), z1, some (.int (a : Nat)), some (.ref p), some (.str t), some (.ref w), some (.lst ((wyN (tgI rs) t W).map .str)), some (.int (W.map fun x => (vcI rs x).getD a 0).sum), z8] eh3 := fun no z8 => hnx2 _ _ ⟨dn ++ [x], _, by simp [hdn], by
      rw [app]
      have e : onS [x] (tgI rs) t u W = [] := by unfold onS; rw [List.filter_cons_of_neg (by simpa using no)]; rfl
      rw [e, List.append_nil]; exact H3, rfl⟩
    unfold bd__law_lows_1
    walk_at "go"
    refine ix_i (xs := [.str x.1, .int x.2, .str (rdOf rs x).t, .tup ((rdOf rs x).v.map .int)]) (z := .str x.1) rfl (by rfl) ?_
    walk_at "go"
    refine ix_i (xs := (wyN (tgI rs) t W).map .str) (z := .str u) rfl lst ?_
    walk_at "go"
    refine cD_i (fun hxu => ?_) (fun hxu => ?_)
    · walk_at "go"
      refine ix_i (xs := [.str x.1, .int x.2, .str (rdOf rs x).t, .tup ((rdOf rs x).v.map .int)]) (z := .str (tgI rs x)) rfl (by rfl) ?_
      walk_at "go"
      refine in_i (n := 0) (decide (tgI rs x ∈ wyN (tgI rs) t W)) (L := (wyN (tgI rs) t W).map .str) rfl okD_str (fun y hy => by obtain ⟨c, _, rfl⟩ := List.mem_map.mp hy; exact okD_str) (by decide) (by
        rw [decide_eq_true_eq]
        constructor
        · intro h
          exact List.mem_map.mpr ⟨_, h, rfl⟩
        · intro h
          obtain ⟨c, hc, e⟩ := List.mem_map.mp h
          rw [← EV.str.inj e]; exact hc) ?_
      rw [Bool.true_xor]
      refine ⟨_, rfl, ?_⟩
      by_cases hin : tgI rs x ∈ wyN (tgI rs) t W
      · rw [decide_eq_true hin]
        refine cF_i ?_
        walk_at "go"
        exact skip (fun z => z.2 hin) _
      · rw [decide_eq_false hin]
        refine cT_i ?_
        walk_at "go"
        refine ⟨isLst_ref H3.hw, ?_⟩
        walk_at "go"
        refine ix_i (xs := [.str x.1, .int x.2, .str (rdOf rs x).t, .tup ((rdOf rs x).v.map .int)]) (z := .str (tgI rs x)) rfl (by rfl) ?_
        walk_at "go"
        refine addF_i (us := (wyN (tgI rs) t W).map .str) (vs := [.str (tgI rs x)]) (szL (by unfold wyN; simp; omega)) ?_
        walk_at "go"
        refine ix_i (xs := [.str x.1, .int x.2, .str (rdOf rs x).t, .tup ((rdOf rs x).v.map .int)]) (z := .tup ((rdOf rs x).v.map .int)) rfl (by rfl) ?_
        walk_at "go"
        have va : (rdOf rs x).v[a]? = some ((vcI rs x).getD a 0) := by
          rw [List.getD_eq_getElem?_getD, List.getElem?_eq_getElem (by show a < (vcI rs x).length; omega)]; rfl
        refine ix_i (xs := (rdOf rs x).v.map .int) (z := .int ((vcI rs x).getD a 0)) rfl (at_cells va) ?_
        walk_at "go"
        refine ⟨_, H3.hw, by rw [List.length_map, List.length_append]; omega, ?_⟩
        have ew : EV.tup [.lst ((wyN (tgI rs) t W).map .str ++ [.str (tgI rs x)]), .int ((W.map fun x => (vcI rs x).getD a 0).sum + (vcI rs x).getD a 0)] = waE (tgI rs) (fun x => (vcI rs x).getD a 0) t (W ++ [x]) := by
          unfold waE wyN
          rw [List.map_append, List.map_append, List.sum_append, ← List.cons_append, List.map_append]
          simp
        rw [ew]
        refine hnx2 _ _ ⟨dn ++ [x], _, by simp [hdn], ?_, rfl⟩
        have e : onS [x] (tgI rs) t u W = [W ++ [x]] := by unfold onS; rw [List.filter_cons_of_pos (by simpa using ⟨hxu, hin⟩)]; rfl
        rw [app, e, ← List.append_assoc]
        exact ⟨by rw [eupd_ne H3.ne]; exact H3.hp, by rw [eupd_same, List.map_append (l₂ := [W ++ [x]])]; rfl, H3.ne, H3.p0, H3.w0, H3.kp.set H3.w0⟩
    · walk_at "go"
      exact skip (fun z => hxu z.1) _
  · rintro es eh3 ⟨dn, z8, hdn, H3, rfl⟩
    rw [List.append_nil] at hdn
    subst hdn
    refine ⟨trivial, ?_⟩
    refine hnx (lfS (st1 ++ onS (rdI rs) (tgI rs) t u W)) _ _ (by rw [lfS_app]; omega) ⟨updF f2 t m', _, _, _, _, H3, by rw [ft]; exact I2, fun v hv => by rw [updF_ne hv]; exact hfu v hv, rfl, by rw [lfS_app]; omega, rfl⟩
end

/-! ### k30: the lows of all tables in a dimension -/
theorem dputg_i {t : Tg} {md mk mv : ME} {xc : XC} {d : Dn} {es : Es} {eh : Eh} (h : mv xc es eh fun v eh1 => ∃ y z, v = .tup [y, z] ∧ md xc es eh1 fun x eh2 => mk xc es eh2 fun c eh3 => ∃ a kvs k es', x = .ref a ∧ eh3 a = some (.dct kvs) ∧ keyE c = some k ∧ kvs.length < sizeLine ∧ asg t z es = some es' ∧ d.nx es' (eupd eh3 a (some (.dct (putKE kvs k y))))) : sDPutG t md mk mv xc d es eh := h
section
variable {rs : List Row} {a : Nat} {dims md : Int}
theorem lows_fz {S : Addr → Bool} {xc : XC} {eh : Eh} {q : KE} (hS : S = nw eh) (h : SysFit dims md rs) (ha : a < dims.toNat)
    (k : ∀ f : Str → Int, (∀ w ∈ rs.map (·.w), LeastS (rdI rs) (tgI rs) (fun x => (vcI rs x).getD a 0) w (f w)) → q (.dct (asK .int (fnL (rs.map (·.w)) f))) eh) :
    ([EV.lst ((rdI rs).map (rwE rs)), .lst ((rs.map fun r : Row => r.w).map .str), .int (a : Nat)] ++ []).length = 3 ∧ FZ S fn__law_lows xc ([EV.lst ((rdI rs).map (rwE rs)), .lst ((rs.map fun r : Row => r.w).map .str), .int (a : Nat)] ++ []) eh q := by
  refine ⟨rfl, ?_⟩
  subst hS
  have r6 := h.l
  have hnd := h.nd
  unfold FZ fn__law_lows ms__law_lows
  walk_at "go"
  intro p hp
  walk_at "go"
  refine for_inv (c := EV.str) (L := List.map (fun r : Row => r.w) rs) (fun L es eh' => ∃ (dn : List Str) (f : Str → Int) (z4 z5 z6 z7 z8 : Option EV), dn ++ L = rs.map (·.w) ∧ eh' p = some (.dct (asK .int (fnL dn f))) ∧ Kp eh eh' ∧ (∀ w ∈ dn, LeastS (rdI rs) (tgI rs) (fun x => (vcI rs x).getD a 0) w (f w)) ∧ es = [some (.lst ((rdI rs).map (rwE rs))), some (.lst ((rs.map fun r : Row => r.w).map .str)), some (.int (a : Nat)), some (.ref p), z4, z5, z6, z7, z8]) ⟨[], fun _ => 0, _, _, _, _, _, rfl, eupd_same, .new hp, by simp, rfl⟩ ?_ ?_
  · rintro t L es eh' ⟨dn, f, z4, z5, z6, z7, z8, hdn, hp', kp, hf, rfl⟩
    have htw : t ∈ rs.map (·.w) := by rw [← hdn]; simp
    have dl : dn.length ≤ 6 := by have := congrArg List.length hdn; simp at this; omega
    have htd : t ∉ dn := fun z => by
      rw [← hdn] at hnd
      exact (List.nodup_append.mp hnd).2.2 _ z _ (by simp) rfl
    refine ⟨trivial, _, rfl, fun d2 hrt hnx _ _ => ?_⟩
    unfold bd__law_lows_3
    walk_at "go"
    refine dputg_i ?_
    walk_at "go"
    intro w hw
    have wp : p ≠ w := fun z => by rw [← z, hp'] at hw; cases hw
    have w0 := kp_none kp hw
    walk_at "go"
    refine ⟨_, _, rfl, ?_⟩
    walk_at "go"
    refine ⟨p, _, .inr t, _, rfl, by rw [eupd_ne wp]; exact hp', rfl, szT (by unfold asK fnL; rw [List.length_map, List.length_map]; omega), rfl, ?_⟩
    rw [put_fnN htd]
    walk_at "go"
    refine lows_while (f := updF f t 0) h ha htw (by simp) (by simp; omega) ⟨eupd_same, by rw [eupd_ne wp.symm, eupd_same]; rfl, wp, hp, w0, (kp.set w0).set hp⟩ updF_same fun f2 eh1 z6 z7 z8 H I fu => ?_
    refine hnx _ _ ⟨dn ++ [t], f2, _, _, _, _, _, by simp [hdn], H.hp, H.kp, fun v hv => ?_, rfl⟩
    by_cases e : v = t
    · subst e; exact I
    · have hv2 := (List.mem_append.mp hv).resolve_right fun z => e (List.mem_singleton.mp z)
      rw [fu v e, updF_ne e]
      exact hf v hv2
  · rintro es eh' ⟨dn, f, z4, z5, z6, z7, z8, hdn, hp', kp, hf, rfl⟩
    rw [List.append_nil] at hdn
    subst hdn
    refine ⟨trivial, ?_⟩
    dsimp only
    walk_at "go"
    rw [fz_dct (k := 8) (by simp [nw, hp]) hp', fz_asK (n := 0) (fun _ => rfl), kp.dr]
    exact k f hf
end

/-! ### k30: the tables drawn -/
def abV (v : List Int) : List Int := v.map fun n => if n < 0 then -n else n
def abR (r : Row) : Row := ⟨r.w, r.n, r.rs.map fun x => ⟨x.t, abV x.v, x.f⟩⟩
theorem ab_ok {dims : Int} {rows : List Row} (h : PGw dims rows) : PGw dims (rows.map abR) := by
  have ew : (rows.map abR).map (·.w) = rows.map (·.w) := by rw [List.map_map]; rfl
  have el : (rows.map abR).map (fun r => r.rs.length) = rows.map fun r => r.rs.length := by
    rw [List.map_map]
    exact List.map_congr_left fun r _ => by simp [abR]
  refine ⟨by rw [List.length_map]; exact h.len, by rw [ew]; exact h.nd, fun r hr => ?_, fun r hr => ?_, fun r hr => ?_, by rw [el]; exact h.tot, fun r hr x hx => ?_⟩
  · obtain ⟨r', hr', rfl⟩ := List.mem_map.mp hr; exact h.nm r' hr'
  · obtain ⟨r', hr', rfl⟩ := List.mem_map.mp hr; exact h.zz r' hr'
  · obtain ⟨r', hr', rfl⟩ := List.mem_map.mp hr; exact h.ch r' hr'
  · obtain ⟨r', hr', rfl⟩ := List.mem_map.mp hr
    obtain ⟨x', hx', rfl⟩ := List.mem_map.mp hx
    have g := h.rd r' hr' x' hx'
    rw [ew]
    refine ⟨g.t, ⟨by show (abV x'.v).length = _; unfold abV; rw [List.length_map]; exact g.v.1, fun n hn => ?_⟩, g.f⟩
    obtain ⟨m, hm, rfl⟩ := List.mem_map.mp hn
    have := g.v.2 m hm
    split <;> omega
theorem drawn_fz {S : Addr → Bool} {xc : XC} {a : Addr} {s : Int × Int × Int} {dims b : Int} {eh : Eh} {q : KE} (hS : S = nw eh) (h : eh a = some (rgO s)) (hs : RgOk b s) (hb : b + 5000 ≤ 600000000) (hd : 1 ≤ dims ∧ dims ≤ 3)
    (k : ∀ (rows : List Row) (s' : Int × Int × Int), PGw dims rows → RgOk (b + 4600) s' → q (.lst (rows.map rowE)) (eupd eh a (some (rgO s')))) :
    ([EV.ref a, .int dims] ++ []).length = 2 ∧ FZ S fn__law_drawn xc ([EV.ref a, .int dims] ++ []) eh q := by
  refine ⟨rfl, ?_⟩
  subst hS
  have ha : eh a ≠ none := by rw [h]; simp
  have okr : ∀ rows : List Row, okB 6 (.lst (rows.map rowE)) = true := fun rows => okB_map fun r _ => by
    show [EV.str r.w, .int r.n, .lst (r.rs.map rdE)].all (okB 4) = true
    have e1 : okB 4 (.lst (r.rs.map rdE)) = true := okB_map fun x _ => by
      show [EV.str x.t, .tup (x.v.map .int), .int x.f].all (okB 2) = true
      have : okB 2 (.tup (x.v.map .int)) = true := okB_of (okD_ints _)
      simp only [List.all_cons, List.all_nil, Bool.and_true, this]; rfl
    simp only [List.all_cons, List.all_nil, Bool.and_true, e1]; rfl
  unfold FZ fn__law_drawn ms__law_drawn
  walk_at "go"
  refine ptables_fz rfl h hs (by omega) hd (by decide) fun rowsA s2 hgA hs2 => ?_
  walk_at "go"
  refine wide_fz rfl eupd_same hs2 (by omega) hd fun rowsB s3 hgB hs3 => ?_
  rw [eupd_eupd]
  walk_at "go"
  refine draw_fz rfl eupd_same hs3 (by omega) (by omega) (by omega) fun u s4 u0 u1 hs4 => ?_
  rw [eupd_eupd]
  obtain ⟨rows, hrows, hg⟩ : ∃ rows, atI [EV.lst (rowsA.map rowE), .lst (rowsB.map rowE)] u = some (.lst (rows.map rowE)) ∧ PGw dims rows := by
    have : u = 0 ∨ u = 1 := by omega
    rcases this with rfl | rfl
    · exact ⟨rowsA, rfl, hgA.w (by decide)⟩
    · exact ⟨rowsB, rfl, hgB⟩
  refine ix_i (xs := [.lst (rowsA.map rowE), .lst (rowsB.map rowE)]) rfl hrows ?_
  walk_at "go"
  refine draw_fz rfl eupd_same hs4 (by omega) (by omega) (by omega) fun u2 s5 u20 u21 hs5 => ?_
  rw [eupd_eupd]
  walk_at "go"
  have rl := hg.len
  by_cases hu : u2 = 0
  · rw [decide_eq_true hu]
    walk_at "go"
    exact fin_rg ha (okr rows) (k rows s5 hg (hs5.mono (by omega)))
  · rw [decide_eq_false hu]
    walk_at "go"
    intro p hp
    have pa : p ≠ a := fun z => by rw [z, eupd_same] at hp; cases hp
    have hp0 : eh p = none := by rw [eupd_ne pa] at hp; exact hp
    walk_at "go"
    refine for_inv (c := rowE) (fun L es eh' => ∃ (dn : List Row) (z4 z5 z6 : Option EV), dn ++ L = rows ∧ eh' = eupd (eupd eh a (some (rgO s5))) p (some (.lst ((dn.map abR).map rowE))) ∧ es = [some (.ref a), some (.int dims), some (.lst (rows.map rowE)), some (.ref p), z4, z5, z6, none, none]) ⟨[], _, _, _, rfl, rfl, rfl⟩ ?_ ?_
    · rintro r L es eh' ⟨dn, z4, z5, z6, hdn, rfl, rfl⟩
      have hr : r ∈ rows := by rw [← hdn]; simp
      have dl : dn.length ≤ 6 := by have := congrArg List.length hdn; simp at this; omega
      have rr : r.rs.length ≤ 12 := Nat.le_trans (le_sum (List.mem_map.mpr ⟨r, hr, rfl⟩)) hg.tot
      refine ⟨trivial, _, rfl, fun d2 hrt hnx _ _ => ?_⟩
      unfold bd__law_drawn_3
      walk_at "go"
      refine ⟨⟨_, by simp only [lstE, eupd_same]; rfl⟩, ?_⟩
      walk_at "go"
      refine comp_map (c := rdE) (f := fun x : Rd => rdE ⟨x.t, abV x.v, x.f⟩) trivial (by simp; omega) (fun x hx => asgx_i rfl fun q' hq' => ?_) ?_
      · have xv := (hg.rd r hr x hx).v.1
        unfold ce__law_drawn_2
        walk_at "go"
        refine ix_i (xs := [.str x.t, .tup (x.v.map .int), .int x.f]) (z := .str x.t) rfl (by rfl) ?_
        walk_at "go"
        refine ix_i (xs := [.str x.t, .tup (x.v.map .int), .int x.f]) (z := .tup (x.v.map .int)) rfl (by rfl) ?_
        walk_at "go"
        refine comp_map (c := EV.int) (f := fun n => .int (if n < 0 then -n else n)) trivial (by simp; omega) (fun n hn => asgx_i rfl fun q2 hq2 => ?_) ?_
        · unfold ce__law_drawn_1
          walk_at "go"
          exact hq2
        rw [List.nil_append, show x.v.map (fun n => EV.int (if n < 0 then -n else n)) = (abV x.v).map .int by unfold abV; rw [List.map_map]; rfl]
        walk_at "go"
        refine ix_i (xs := [.str x.t, .tup (x.v.map .int), .int x.f]) (z := .int x.f) rfl (by rfl) ?_
        walk_at "go"
        exact hq'
      rw [List.nil_append]
      walk_at "go"
      refine ⟨_, eupd_same, szT (by simp; omega), ?_⟩
      rw [eupd_eupd]
      refine hnx _ _ ⟨dn ++ [r], _, _, _, by simp [hdn], ?_, rfl⟩
      have er : rowE (abR r) = .tup [.str r.w, .int r.n, .lst (r.rs.map fun x => rdE ⟨x.t, abV x.v, x.f⟩)] := by unfold rowE abR; rw [List.map_map]; rfl
      rw [List.map_append, List.map_append, List.map_singleton, List.map_singleton, er]
    · rintro es eh' ⟨dn, z4, z5, z6, hdn, rfl, rfl⟩
      rw [List.append_nil] at hdn
      subst hdn
      refine ⟨trivial, ?_⟩
      dsimp only
      walk_at "go"
      have nwb : nw (eupd eh a (some (rgO s5))) = nw eh := nw_eupd ha
      have hdr : drE (nw eh) (eupd (eupd eh a (some (rgO s5))) p (some (.lst ((dn.map abR).map rowE)))) = eupd eh a (some (rgO s5)) := by rw [← nwb]; exact (Kp.new hp).dr
      rw [hdr, fz_lst (k := 8) (by simp [nw, hp0]) eupd_same]
      have em : ∀ eh2, ((dn.map abR).map rowE).map (fz (nw eh) eh2 8) = (dn.map abR).map rowE := fun eh2 => by
        refine (List.map_congr_left fun y hy => fz_okB (n := 5) (List.all_eq_true.mp (show ((dn.map abR).map rowE).all (okB 5) = true from okr (dn.map abR)) y hy)).trans (List.map_id _)
      rw [em]
      exact k (dn.map abR) s5 (ab_ok hg) (hs5.mono (by omega))

/-! ### k30: one system -/
def end30 : MS := (sSeq (sFor (iRange1 (aCons (mC (.int 2)) aNil)) (.nm 8) bd__law_right_8)
    (sRet (mC (.bl true))))
def mid30 : MS := (sSeq (sSet 7 (mC .non))
    (sSeq (sIf (tVal (mOp (cEq false) (mComp (iAny (mFz 9 (mCall fn__law_cycles 1 [] (aCons (mVar 5) aNil)))) (.nm 11) (tVal (mOp oLt (mCB bMin (aCons (mFz 9 (mCall fn__law_total 2 [] (aCons (mVar 11) (aCons (mVar 1) aNil)))) aNil)) (mC (.int 0)))) (mVar 11) [11]) (mLst aNil))) (sSeq (sPar 9 7 (aCons (mComp (iRange1 (aCons (mVar 1) aNil)) (.nm 14) tYesE ce__law_right_5 [14]) (aCons mDNew aNil)))
    (sFor (iAny (mVar 4)) (.nm 6) bd__law_right_7)) sNext)
    end30))
def rest30 : MS := (sSeq (sSet 5 (mLstR aNil))
    (sSeq (sFor (iAny (mVar 4)) (.nm 6) bd__law_right_3)
    (sFzV 5 mid30)))
theorem isnR_t30 {neg : Bool} {p : Addr} {eh : Eh} {q : KE} (k : q (.bl neg) eh) : cIsN neg (.ref p) .non eh q := by cases neg <;> exact k
theorem isnN_30 {neg : Bool} {eh : Eh} {q : KE} (k : q (.bl (!neg)) eh) : cIsN neg .non .non eh q := by cases neg <;> exact k
theorem eqDN_n {neg : Bool} {eh : Eh} {q : KE} (k : q (.bl (neg ^^ true)) eh) : cEqDN neg .non .non eh q := .inl ⟨rfl, rfl, k⟩
theorem sft_pd {ws : List Str} {σ : Str → List Int} : ∀ p ∈ sftE ws σ, PD p.2 := fun p hp => by
  obtain ⟨w, _, rfl⟩ := List.mem_map.mp hp
  have := DOk.of (n := 1) (okB_of (okD_ints (σ w)))
  exact ⟨this.d, this.p, Nat.le_trans this.z (by decide)⟩
theorem sft_nd {ws : List Str} {σ : Str → List Int} (h : ws.Nodup) : ((sftE ws σ).map (·.1)).Nodup := by
  unfold sftE
  rw [List.map_map]
  exact inr_nodup h
theorem eqDN_d {neg : Bool} {ws : List Str} {σ : Str → List Int} {x y : EV} {eh : Eh} {q : KE} (hn : ws.Nodup) (hx : dctE eh x = some (sftE ws σ)) (hy : dctE eh y = some (sftE ws σ)) (k : q (.bl (neg ^^ true)) eh) : cEqDN neg x y eh q :=
  .inr ⟨_, _, hx, hy, sft_pd, sft_pd, sft_nd hn, sft_nd hn, by rw [eqKV_self (sft_nd hn) fun p hp => (sft_pd p hp).p]; exact k⟩
def sgX (T : List LwT) (w : Str) : List Int := T.map fun t => t.1 w
theorem shE_sftX (ws : List Str) (T : List LwT) : shE ws T = sftE ws (sgX T) := by unfold shE asK sftE; rw [List.map_map]; rfl
section
variable {rs : List Row} {dims : Int} {a : Addr} {xc : XC} {d : Dn} {eh : Eh} {z2 z4 z5 z6 z7 z8 z9 z10 z11 z12 z13 z14 z15 : Option EV}
/-- told twice, and cleared -/
theorem ended30 (F : SysFit dims 97 rs) {due : EV} (hdue : (due = .non ∧ ∃ ax < dims.toNat, ∃ W, BarW rs ax W) ∨ ∃ p7 σ, due = .ref p7 ∧ eh p7 = some (.dct (sftE (rs.map (·.w)) σ)) ∧ (∀ ax < dims.toNat, ∀ W, ¬ BarW rs ax W) ∧ ∀ T : List LwT, T.length = dims.toNat → (∀ (ax : Nat) t, T[ax]? = some t → LwOk rs ax t.1 t.2.1 none) → sftE (rs.map (·.w)) (sgX T) = sftE (rs.map (·.w)) σ)
    (k : ∀ eh', Kp eh eh' → d.rt (.bl true) eh') :
    end30 xc d [some (.ref a), some (.int dims), z2, some (sysE dims 97 rs), z4, z5, z6, some due, z8, z9, z10, z11, z12, z13, z14, z15] eh := by
  have hn := F.nd
  unfold end30
  walk_at "go"
  refine ⟨_, rfl, by decide, ?_⟩
  refine for_inv (c := fun i : Nat => EV.int (i : Int)) (fun L es eh2 => Kp eh eh2 ∧ ∃ z8 z10 : Option EV, es = [some (.ref a), some (.int dims), z2, some (sysE dims 97 rs), z4, z5, z6, some due, z8, z9, z10, z11, z12, z13, z14, z15]) ⟨.refl, _, _, rfl⟩ ?_ ?_
  · rintro i L es eh2 ⟨kp, y8, y10, rfl⟩
    refine ⟨trivial, _, rfl, fun d2 hrt hnx _ _ => ?_⟩
    unfold bd__law_right_8
    walk_at "go"
    refine ⟨rfl, rfl, rfl, ?_⟩
    rcases hdue with ⟨rfl, ax, hax, W, B⟩ | ⟨p7, σ, rfl, h7, nob, eqT⟩
    · have no : ∀ T : List LwT, T.length = dims.toNat → (∀ (a : Nat) t, T[a]? = some t → LwOk rs a t.1 t.2.1 none) → False := fun T hT hL => by
        have ht : T[ax]? = some (T[ax]'(by omega)) := List.getElem?_eq_getElem (by omega)
        exact LowsAt.no ⟨_, (hL ax _ ht).lows⟩ B
      refine gsh_ez F (fun _ => ?_) fun T hT hL => (no T hT hL).elim
      walk_at "go"
      refine eqDN_n ?_
      refine ⟨_, rfl, ?_⟩
      refine cF_i ?_
      walk_at "go"
      refine gsh_fz2 rfl F (fun _ => ?_) fun T hT hL => (no T hT hL).elim
      walk_at "go"
      refine eqDN_n ?_
      refine ⟨_, rfl, ?_⟩
      refine cF_i ?_
      walk_at "go"
      refine isnN_30 ?_
      refine ⟨_, rfl, ?_⟩
      refine cF_i ?_
      refine next_i ?_
      exact hnx _ _ ⟨kp, _, _, rfl⟩
    · refine gsh_ez F (fun ⟨ax, hax, W, B⟩ => absurd B (nob ax hax W)) fun T hT hL p hp => ?_
      have p0 := kp_none kp hp
      have h7' : eh2 p7 = some (.dct (sftE (rs.map (·.w)) σ)) := by rw [kp p7 (by rw [h7]; simp), h7]
      have p7p : p7 ≠ p := fun z => by rw [← z, h7'] at hp; cases hp
      rw [shE_sftX, eqT T hT hL]
      have d7 : dctE (eupd eh2 p (some (.dct (sftE (rs.map (·.w)) σ)))) (.ref p7) = some (sftE (rs.map (·.w)) σ) := by simp only [dctE, eupd_ne p7p, h7']
      have dp : dctE (eupd eh2 p (some (.dct (sftE (rs.map (·.w)) σ)))) (.ref p) = some (sftE (rs.map (·.w)) σ) := by simp only [dctE, eupd_same]
      walk_at "go"
      refine eqDN_d hn dp d7 ?_
      refine ⟨_, rfl, ?_⟩
      refine cF_i ?_
      walk_at "go"
      refine gsh_fz2 rfl F (fun ⟨ax, hax, W, B⟩ => absurd B (nob ax hax W)) fun T2 hT2 hL2 => ?_
      rw [shE_sftX, eqT T2 hT2 hL2]
      walk_at "go"
      refine eqDN_d hn rfl d7 ?_
      refine ⟨_, rfl, ?_⟩
      refine cF_i ?_
      walk_at "go"
      refine isnR_t30 ?_
      refine ⟨_, rfl, ?_⟩
      refine cT_i ?_
      walk_at "go"
      refine ⟨⟨p, _, rfl, eupd_same⟩, ?_⟩
      walk_at "go"
      refine ⟨p, _, rfl, rfl, eupd_same, ?_⟩
      rw [eupd_eupd]
      exact hnx _ _ ⟨kp.set p0, _, _, rfl⟩
  · rintro es eh2 ⟨kp, y8, y10, rfl⟩
    refine ⟨trivial, ?_⟩
    dsimp only
    walk_at "go"
    exact k eh2 kp
end

/-! ### k30: what is due -/
theorem row_I {rs : List Row} (hn : (rs.map (·.w)).Nodup) : (rdT rs).map knE = (rdI rs).map (rwE rs) := by rw [rdT_I hn, List.map_map]; rfl
theorem Kp.tr {eh eh1 eh2 : Eh} (h : Kp eh eh1) (g : Kp eh1 eh2) : Kp eh eh2 := fun c hc => by
  have h1 := h c hc
  rw [g c (by rw [h1]; exact hc), h1]
section
variable {rs : List Row} {dims : Int} {a : Addr} {d : Dn} {eh : Eh} {z2 z6 z7 z8 z9 z10 z11 z12 z13 z14 z15 : Option EV}
theorem middle30 (F : SysFit dims 97 rs) (k : ∀ eh', Kp eh eh' → d.rt (.bl true) eh') :
    mid30 xF d [some (.ref a), some (.int dims), z2, some (sysE dims 97 rs), some (.lst ((rs.map fun r : Row => r.w).map .str)), some (.lst ((rdI rs).map (rwE rs))), z6, z7, z8, z9, z10, z11, z12, z13, z14, z15] eh := by
  have hd := F.d
  have hn := F.nd
  have r6 := F.l
  have rl := rdT_len F.t
  have hws : ∀ z ∈ rdT rs, zS z ∈ rs.map (·.w) ∧ zT z ∈ rs.map (·.w) := fun z hz => by
    obtain ⟨z1, z2⟩ := rdT_at F.nd hz
    obtain ⟨r, hr, i, e, hy⟩ := rdI_of F.nd z1
    refine ⟨by unfold zS; rw [e]; exact List.mem_map.mpr ⟨r, hr, rfl⟩, ?_⟩
    have := F.tg r hr _ (List.mem_of_getElem? hy)
    rw [z2] at this
    exact this
  have hsl : 6000000 ≤ sizeLine := by decide
  unfold mid30
  walk_at "go"
  rw [← row_I hn]
  refine cycles_fz (ws := rs.map (·.w)) rfl hws (by rw [List.length_map]; exact F.l.2) rl fun C hC1 hC2 hCl => ?_
  walk_at "go"
  refine compB_filter (c := rnE) (f := rnE) (p := badR dims rs) trivial (by simp; omega) (fun r hr => asgx_i rfl ⟨fun qt hq => ?_, fun _ q2 hq2 => ?_⟩) ?_
  · obtain ⟨t, ht⟩ := hC1 r hr
    obtain ⟨r1, r2, r3⟩ := rd_path F.nd ht
    have rlen := ht.toPtZ.len (fun z hz => (hws z hz).1) (by rw [List.length_map]; exact F.l.2)
    have er : rnE r = .lst ((r.map (·.1)).map (knX rs)) := by
      rw [List.map_map]
      refine congrArg EV.lst (List.map_congr_left fun y hy => ?_)
      show knE y = knE (y.1, rdOf rs y.1)
      rw [← r1 y hy]
    walk_at "go"
    rw [er]
    refine ltotal_fz rfl F r2 (by simp; omega) ?_
    walk_at "go"
    refine minT_i (sumV_ne (by omega)) ?_
    walk_at "go"
    exact hq
  · walk_at "go"
    exact hq2
  rw [List.nil_append]
  generalize hfr : C.filter (badR dims rs) = FR
  walk_at "go"
  refine eq_i (n := 4) (m := 1) (x' := .lst (FR.map rnE)) (y' := .lst []) (decide (FR = [])) rfl rfl (okD_map fun p _ => okD_rn p) rfl (by decide) (by decide) (by cases FR <;> simp) ?_
  rw [Bool.false_xor]
  refine ⟨_, rfl, ?_⟩
  by_cases hF : FR = []
  · rw [decide_eq_true hF]
    have nob : ∀ ax < dims.toNat, ∀ W, ¬ BarW rs ax W := fun ax hax W B => free_some F hC2 hax B (hfr.trans hF)
    refine cT_i ?_
    walk_at "go"
    refine ⟨_, rfl, by omega, ?_⟩
    refine comp_inv (c := fun i : Nat => EV.int (i : Int)) (fun acc N eh' => ∃ Fs : List (Str → Int), acc = Fs.map (fun f => EV.dct (asK .int (fnL (rs.map fun r : Row => r.w) f))) ∧ N = (List.range dims.toNat).drop Fs.length ∧ Fs.length ≤ dims.toNat ∧ eh' = eh ∧ ∀ (ax : Nat) f, Fs[ax]? = some f → ∀ w ∈ rs.map (·.w), LeastS (rdI rs) (tgI rs) (fun x => (vcI rs x).getD ax 0) w (f w))
      ⟨[], rfl, rfl, Nat.zero_le _, rfl, fun ax f e => by simp at e⟩ (by simp; omega) ?_ ?_
    · rintro acc j N eh' ⟨Fs, rfl, eN, hi, rfl, hFs⟩
      have hi' : Fs.length < dims.toNat := by
        rcases Nat.lt_or_ge Fs.length dims.toNat with z | z
        · exact z
        · rw [List.drop_eq_nil_of_le (by simpa using z)] at eN; cases eN
      rw [drop_range hi'] at eN
      obtain ⟨ej, eN⟩ := List.cons.inj eN
      subst ej
      refine ⟨trivial, _, rfl, fun qt hqt => ?_⟩
      unfold ce__law_right_5
      walk_at "go"
      rw [row_I hn]
      refine lows_fz rfl F hi' fun f hf => ?_
      refine hqt _ _ ⟨Fs ++ [f], by simp, by simpa using eN, by simp; omega, rfl, fun ax f2 e => ?_⟩
      rcases Nat.lt_trichotomy ax Fs.length with g | g | g
      · rw [List.getElem?_append_left g] at e; exact hFs ax f2 e
      · subst g
        rw [List.getElem?_append_right (Nat.le_refl _)] at e
        simp at e
        subst e
        exact hf
      · rw [List.getElem?_eq_none (by simp; omega)] at e; cases e
    · rintro acc eh' ⟨Fs, rfl, eN, hi, rfl, hFs⟩
      have hFl : Fs.length = dims.toNat := by
        have h1 := congrArg List.length eN
        simp at h1
        omega
      refine ⟨trivial, ?_⟩
      walk_at "go"
      intro p7 hp7
      walk_at "go"
      refine ⟨_, _, rfl, ?_⟩
      walk_at "go"
      refine for_inv (c := EV.str) (L := List.map (fun r : Row => r.w) rs) (fun L es eh2 => ∃ (dn : List Str) (z6 : Option EV), dn ++ L = rs.map (·.w) ∧ eh2 = eupd eh' p7 (some (.dct (sftE dn fun w => Fs.map fun f => f w))) ∧ es = [some (.ref a), some (.int dims), z2, some (sysE dims 97 rs), some (.lst ((rs.map fun r : Row => r.w).map .str)), some (.lst ((rdT rs).map knE)), z6, some (.ref p7), z8, some (.lst (Fs.map fun f => EV.dct (asK .int (fnL (rs.map fun r : Row => r.w) f)))), z10, z11, z12, z13, z14, z15]) ⟨[], _, rfl, rfl, rfl⟩ ?_ ?_
      · rintro w L es eh2 ⟨dn, z6, hdn, rfl, rfl⟩
        have hw : w ∈ rs.map (·.w) := by rw [← hdn]; simp
        have dl : dn.length ≤ 6 := by have := congrArg List.length hdn; simp at this; omega
        have hwd : w ∉ dn := fun z => by
          have hn2 := hn
          rw [← hdn] at hn2
          exact (List.nodup_append.mp hn2).2.2 _ z _ (by simp) rfl
        refine ⟨trivial, _, rfl, fun d2 hrt hnx _ _ => ?_⟩
        unfold bd__law_right_7
        walk_at "go"
        refine comp_map (c := fun f : Str → Int => EV.dct (asK .int (fnL (rs.map fun r : Row => r.w) f))) (f := fun f => .int (f w)) trivial (by simp; omega) (fun f hf => asgx_i rfl fun q2 hq2 => ?_) ?_
        · walk_at "go"
          refine ixd_i (kvs := asK .int (fnL (rs.map fun r : Row => r.w) f)) rfl rfl (by rw [getA_K, get_fnL hw]; rfl) ?_
          exact hq2
        rw [List.nil_append, show Fs.map (fun f => EV.int (f w)) = (Fs.map fun f => f w).map .int by rw [List.map_map]; rfl]
        walk_at "go"
        refine ⟨p7, _, .inr w, rfl, eupd_same, rfl, szT (by simp [sftE]; omega), ?_⟩
        rw [sft_put hwd, eupd_eupd]
        have es : sftE (dn ++ [w]) (fun u => if u = w then Fs.map (fun f => f w) else Fs.map fun f => f u) = sftE (dn ++ [w]) fun w => Fs.map fun f => f w := List.map_congr_left fun u _ => by
          dsimp only
          by_cases e : u = w
          · rw [if_pos e, e]
          · rw [if_neg e]
        rw [es]
        exact hnx _ _ ⟨dn ++ [w], _, by simp [hdn], rfl, rfl⟩
      · rintro es eh2 ⟨dn, z6, hdn, rfl, rfl⟩
        rw [List.append_nil] at hdn
        subst hdn
        refine ⟨trivial, ?_⟩
        refine ended30 F (.inr ⟨p7, _, rfl, eupd_same, nob, fun T hT hL => ?_⟩) fun eh3 kp => k eh3 (Kp.tr (Kp.new hp7) kp)
        refine List.map_congr_left fun w hw => ?_
        have e : sgX T w = Fs.map fun f => f w := by
          unfold sgX
          refine List.ext_getElem? fun ax => ?_
          rw [List.getElem?_map, List.getElem?_map]
          rcases Nat.lt_or_ge ax dims.toNat with z | z
          · have t1 : T[ax]? = some (T[ax]'(by omega)) := List.getElem?_eq_getElem (by omega)
            have t2 : Fs[ax]? = some (Fs[ax]'(by omega)) := List.getElem?_eq_getElem (by omega)
            rw [t1, t2]
            have := least_low (hL ax _ t1) (hFs ax _ t2 w hw)
            show some (_ : Int) = some _
            dsimp only
            rw [this]
          · rw [List.getElem?_eq_none (by omega), List.getElem?_eq_none (by omega)]; rfl
        rw [e]
  · rw [decide_eq_false hF]
    obtain ⟨r, hr⟩ := List.exists_mem_of_ne_nil _ hF
    rw [← hfr] at hr
    obtain ⟨hrC, hb⟩ := List.mem_filter.mp hr
    obtain ⟨t, ht⟩ := hC1 r hrC
    obtain ⟨_, r2, r3⟩ := rd_path F.nd ht
    unfold badR at hb
    rw [decide_eq_true_eq, mn_neg (by omega)] at hb
    obtain ⟨ax, hax, hs⟩ := hb
    refine cF_i ?_
    refine next_i ?_
    exact ended30 F (.inl ⟨rfl, ax, hax, _, by simpa using ht.ne, r2, ⟨t, r3⟩, hs⟩) k
end

/-! ### k30: rows told, one system judged -/
section
variable {rs : List Row} {dims : Int} {a : Addr} {d : Dn} {eh : Eh} {z2 z5 z6 z7 z8 z9 z10 z11 z12 z13 z14 z15 : Option EV}
theorem rested30 (F : SysFit dims 97 rs) (k : ∀ eh', Kp eh eh' → d.rt (.bl true) eh') :
    rest30 xF d [some (.ref a), some (.int dims), z2, some (sysE dims 97 rs), some (.lst ((rs.map fun r : Row => r.w).map .str)), z5, z6, z7, z8, z9, z10, z11, z12, z13, z14, z15] eh := by
  have en : ((rs.map fun r : Row => r.w).map EV.str) = rs.map fun r => EV.str r.w := by rw [List.map_map]; rfl
  unfold rest30
  walk_at "go"
  intro p hp
  walk_at "go"
  rw [en]
  refine for_inv (c := fun r : Row => EV.str r.w) (L := rs) (fun L es eh2 => ∃ (dn : List Row) (z6 : Option EV), dn ++ L = rs ∧ eh2 = eupd eh p (some (.lst ((rdT dn).map knE))) ∧ es = [some (.ref a), some (.int dims), z2, some (sysE dims 97 rs), some (.lst (rs.map fun r => EV.str r.w)), some (.ref p), z6, z7, z8, z9, z10, z11, z12, z13, z14, z15]) ⟨[], _, rfl, rfl, rfl⟩ ?_ ?_
  · rintro r L es eh2 ⟨dn, z6, hdn, rfl, rfl⟩
    have hr : r ∈ rs := by rw [← hdn]; simp
    have hdl : (rdT dn).length + r.rs.length ≤ 12 := by
      have h1 := rdT_len F.t
      rw [← hdn] at h1
      unfold rdT at h1 ⊢
      rw [List.flatMap_append, List.flatMap_cons, List.length_append, List.length_append] at h1
      have : (rdT1 r).length = r.rs.length := by simp [rdT1]
      omega
    refine ⟨trivial, _, rfl, fun d2 hrt hnx _ _ => ?_⟩
    unfold bd__law_right_3
    walk_at "go"
    refine ⟨⟨_, by simp only [lstE, eupd_same]; rfl⟩, ?_⟩
    walk_at "go"
    refine ⟨_, rfl, by rfl, ?_⟩
    walk_at "go"
    refine ⟨rfl, ?_⟩
    refine readsM_fz rfl F.nd hr ?_
    walk_at "go"
    refine ⟨_, _, _, rfl, rfl, ?_⟩
    have em : (r.rs.map rdE).mapIdx (fun i x => EV.tup [.int (i : Nat), x]) = (rdT1 r).map fun z => .tup [.int z.1.2, rdE z.2] := by
      unfold rdT1
      refine List.ext_getElem? fun i => ?_
      simp only [List.getElem?_map, List.getElem?_mapIdx, Option.map_map]
      cases r.rs[i]? <;> rfl
    rw [em]
    have l1 : (rdT1 r).length = r.rs.length := by simp [rdT1]
    refine comp_map (c := fun z : (Str × Int) × Rd => .tup [.int z.1.2, rdE z.2]) (f := knE) trivial (by simp; omega) (fun z hz => asgx_i rfl fun q2 hq2 => ?_) ?_
    · have hzw : z.1.1 = r.w := by
        unfold rdT1 at hz
        obtain ⟨i, hi, e⟩ := List.mem_mapIdx.mp hz
        rw [← e]
      unfold ce__law_right_2
      walk_at "go"
      refine ix_i (xs := [.str z.2.t, .tup (z.2.v.map .int), .int z.2.f]) (z := .str z.2.t) rfl (by rfl) ?_
      walk_at "go"
      refine ix_i (xs := [.str z.2.t, .tup (z.2.v.map .int), .int z.2.f]) (z := .tup (z.2.v.map .int)) rfl (by rfl) ?_
      walk_at "go"
      rw [show knE z = .tup [.str r.w, .int z.1.2, .str z.2.t, .tup (z.2.v.map .int)] by unfold knE; rw [hzw]] at hq2
      exact hq2
    rw [List.nil_append]
    walk_at "go"
    refine ⟨_, _, eupd_same, rfl, szL (by simp only [List.length_map]; omega), ?_⟩
    rw [eupd_eupd, ← List.map_append]
    refine hnx _ _ ⟨dn ++ [r], _, by simp [hdn], ?_, rfl⟩
    have e : rdT (dn ++ [r]) = rdT dn ++ rdT1 r := by unfold rdT; rw [List.flatMap_append]; simp
    rw [e]
  · rintro es eh2 ⟨dn, z6, hdn, rfl, rfl⟩
    rw [List.append_nil] at hdn
    subst hdn
    refine ⟨trivial, ?_⟩
    refine fzV_i rfl eupd_same ?_
    rw [eupd_eupd, eupd_self hp, row_I F.nd, ← en]
    exact middle30 F k
end
theorem right_fz {S : Addr → Bool} {a : Addr} {s : Int × Int × Int} {b : Int} {eh : Eh} {q : KE} (hS : S = nw eh) (h : eh a = some (rgO s)) (hs : RgOk b s) (hb : b + 6000 ≤ 600000000)
    (k : ∀ s' : Int × Int × Int, RgOk (b + 5000) s' → q (.bl true) (eupd eh a (some (rgO s')))) : ([EV.ref a] ++ []).length = 1 ∧ FZ S fn__law_right xF ([EV.ref a] ++ []) eh q := by
  refine ⟨rfl, ?_⟩
  subst hS
  have ha : eh a ≠ none := by rw [h]; simp
  have fin : ∀ (s' : Int × Int × Int) (eh' : Eh), Kp (eupd eh a (some (rgO s'))) eh' → RgOk (b + 5000) s' → q (fz (nw eh) eh' 9 (.bl true)) (drE (nw eh) eh') := fun s' eh' kp hs' => by
    have nwb : nw (eupd eh a (some (rgO s'))) = nw eh := nw_eupd ha
    rw [← nwb, kp.dr]
    exact k s' hs'
  unfold FZ fn__law_right ms__law_right
  walk_at "go"
  refine draw_fz rfl h hs (by omega) (by omega) (by omega) fun v s1 v0 v1 hs1 => ?_
  walk_at "go"
  have hd : 1 ≤ 1 + v ∧ 1 + v ≤ 3 := by omega
  generalize 1 + v = dims at hd ⊢
  refine drawn_fz rfl eupd_same hs1 (by omega) hd fun rows s2 hg hs2 => ?_
  rw [eupd_eupd]
  have fit := hg.fit (md := 97) hd (by decide)
  have F := fit.sort
  have rl := hg.len
  have pm := sortR_perm rows
  have ln := pm.length_eq
  walk_at "go"
  refine made_fz rfl fit ?_
  walk_at "go"
  refine comp_map (c := rowE) (f := fun r => EV.str r.w) trivial (by simp; omega) (fun r hr => asgx_i rfl fun q2 hq2 => ?_) ?_
  · unfold ce__law_right_1
    walk_at "go"
    refine ix_i (xs := [.str r.w, .int r.n, .lst (r.rs.map rdE)]) (z := .str r.w) rfl (by rfl) ?_
    exact hq2
  rw [List.nil_append]
  walk_at "go"
  refine bsortS_i (ks := rows.map (·.w)) (by rw [List.map_map]; rfl) (by rw [List.length_map]; omega) fun ys hp hs3 => ?_
  have ey : ys = (sortR rows).map (·.w) := List.Perm.eq_of_pairwise (le := fun a b : Str => ¬ b.cps.toList < a.cps.toList) (fun a b _ _ h h' => str_le h h') (sortedS_pw hs3) (asc_sort rows) (hp.trans (pm.map _).symm)
  rw [ey]
  walk_at "go"
  refine draw_fz rfl eupd_same hs2 (by omega) (by omega) (by omega) fun u s3 u0 u1 hs3 => ?_
  rw [eupd_eupd]
  walk_at "go"
  by_cases hu : u = 0
  · rw [decide_eq_true hu]
    walk_at "go"
    refine shift_fz rfl eupd_same hs3 (by omega) F.nd (by rw [List.length_map]; omega) hd fun σ s4 hσ hs4 => ?_
    rw [eupd_eupd]
    walk_at "go"
    refine shifted_fz ((nw_eupd ha).trans (nw_eupd ha).symm) F (fun _ _ => rfl) (fun r hr => List.mem_map.mpr ⟨r, hr, rfl⟩) (fun w hw => hw) (by rw [List.length_map]; omega) hσ ?_
    have F2 := sh_fit σ F
    have e2 : sortR ((sortR rows).map (shR dims.toNat σ)) = (sortR rows).map (shR dims.toNat σ) := sortR_asc (by rw [sh_names]; exact F.nd) (by rw [sh_names]; exact asc_sort rows)
    rw [e2]
    have en2 : (sortR rows).map (·.w) = ((sortR rows).map (shR dims.toNat σ)).map fun r : Row => r.w := (sh_names _ _ _).symm
    rw [en2]
    exact rested30 F2 fun eh' kp => fin s4 eh' kp (hs4.mono (by omega))
  · rw [decide_eq_false hu]
    refine cF_i ?_
    refine next_i ?_
    exact rested30 F fun eh' kp => fin s3 eh' kp (hs3.mono (by omega))

/-! ### k30: the law -/
theorem low_ge {rs : List Row} {a : Nat} {low : Str → Int} {M : List (Str × (Str × Int))} (H : LwOk rs a low M none) (φ : Str → Int) (np : ∀ w, φ w ≤ 0) (le : ∀ x ∈ rdI rs, φ x.1 ≤ φ (tgI rs x) + (vcI rs x).getD a 0) (w : Str) : φ w ≤ low w := by
  obtain ⟨u, I, _, _⟩ := H.i
  obtain ⟨P, t, p1, p2, p3⟩ := I.wk w
  have := path_le (c := fun x => (vcI rs x).getD a 0) le p1 p2
  have := np t
  omega
def chR : List Row := [⟨"a", 0, [⟨"b", [-3], 1⟩]⟩, ⟨"b", 1, [⟨"a", [4], 1⟩]⟩]
def lsR : List Row := [⟨"a", 0, [⟨"a", [1, -1], 1⟩]⟩, ⟨"b", 2, []⟩]
def sxR : List Row := [⟨"a", 0, [⟨"b", [0], 1⟩]⟩, ⟨"b", 0, [⟨"c", [0], 1⟩]⟩, ⟨"c", 0, [⟨"d", [0], 1⟩]⟩, ⟨"d", 0, [⟨"e", [0], 1⟩]⟩, ⟨"e", 0, [⟨"f", [-3], 1⟩]⟩, ⟨"f", 0, []⟩]
theorem fit_of {dims md : Int} {rows : List Row} (hd : 1 ≤ dims ∧ dims ≤ 3) (hm : 2 ≤ md) (l : 1 ≤ rows.length ∧ rows.length ≤ 6) (nd : (rows.map (·.w)).Nodup) (t : (rows.map fun r => r.rs.length).sum ≤ 12)
    (h : (rows.all fun r => nameOk r.w && r.rs.all fun x => nameOk x.t && (decide ((x.v.length : Int) = dims) && (decide (x.f ≠ 0) && decide (x.t ∈ rows.map (·.w))))) = true) : SysFit dims md rows := by
  rw [List.all_eq_true] at h
  have hx : ∀ r ∈ rows, nameOk r.w = true ∧ ∀ x ∈ r.rs, nameOk x.t = true ∧ (x.v.length : Int) = dims ∧ x.f ≠ 0 ∧ x.t ∈ rows.map (·.w) := fun r hr => by
    have := h r hr
    rw [Bool.and_eq_true, List.all_eq_true] at this
    refine ⟨this.1, fun x hx => ?_⟩
    have := this.2 x hx
    simp only [Bool.and_eq_true, decide_eq_true_eq] at this
    exact ⟨this.1, this.2.1, this.2.2.1, this.2.2.2⟩
  exact ⟨hd, l, nd, fun r hr => ⟨(hx r hr).1, fun x hxx => ⟨((hx r hr).2 x hxx).1, ((hx r hr).2 x hxx).2.1, ((hx r hr).2 x hxx).2.2.1⟩⟩, t, hm, fun r hr x hxx => ((hx r hr).2 x hxx).2.2.2⟩
theorem ch_fit : SysFit 1 1000003 chR := fit_of (by decide) (by decide) (by decide) (by decide) (by decide) (by decide +kernel)
theorem ls_fit : SysFit 2 1000003 lsR := fit_of (by decide) (by decide) (by decide) (by decide) (by decide) (by decide +kernel)
theorem sx_fit : SysFit 1 1000003 sxR := fit_of (by decide) (by decide) (by decide) (by decide +kernel) (by decide) (by decide +kernel)
theorem ch_sort : sortR chR = chR := sortR_asc (by decide) (by unfold Asc; decide +kernel)
theorem ls_sort : sortR lsR = lsR := sortR_asc (by decide) (by unfold Asc; decide +kernel)
theorem sx_sort : sortR sxR = sxR := sortR_asc (by decide +kernel) (by unfold Asc; decide +kernel)
theorem ch_low {low : Str → Int} {M : List (Str × (Str × Int))} (H : LwOk chR 0 low M none) : low "a" = -3 ∧ low "b" = 0 := by
  obtain ⟨np, le⟩ := H.lows
  have h1 := le ("a", 0) (by decide +kernel)
  rw [show tgI chR ("a", 0) = "b" by decide +kernel, show (vcI chR ("a", 0)).getD 0 0 = -3 by decide +kernel] at h1
  have g := low_ge H (fun w => if w = "a" then -3 else 0) (fun w => by split <;> decide) (by decide +kernel)
  have ga := g "a"
  have gb := g "b"
  have n2 := np "b"
  have h1 : low "a" ≤ low "b" + -3 := h1
  rw [if_pos rfl] at ga
  rw [if_neg (by decide)] at gb
  omega
theorem sx_low {low : Str → Int} {M : List (Str × (Str × Int))} (H : LwOk sxR 0 low M none) : low "a" = -3 ∧ low "b" = -3 ∧ low "c" = -3 ∧ low "d" = -3 ∧ low "e" = -3 ∧ low "f" = 0 := by
  obtain ⟨np, le⟩ := H.lows
  have h1 := le ("a", 0) (by decide +kernel)
  have h2 := le ("b", 0) (by decide +kernel)
  have h3 := le ("c", 0) (by decide +kernel)
  have h4 := le ("d", 0) (by decide +kernel)
  have h5 := le ("e", 0) (by decide +kernel)
  rw [show tgI sxR ("a", 0) = "b" by decide +kernel, show (vcI sxR ("a", 0)).getD 0 0 = 0 by decide +kernel] at h1
  rw [show tgI sxR ("b", 0) = "c" by decide +kernel, show (vcI sxR ("b", 0)).getD 0 0 = 0 by decide +kernel] at h2
  rw [show tgI sxR ("c", 0) = "d" by decide +kernel, show (vcI sxR ("c", 0)).getD 0 0 = 0 by decide +kernel] at h3
  rw [show tgI sxR ("d", 0) = "e" by decide +kernel, show (vcI sxR ("d", 0)).getD 0 0 = 0 by decide +kernel] at h4
  rw [show tgI sxR ("e", 0) = "f" by decide +kernel, show (vcI sxR ("e", 0)).getD 0 0 = -3 by decide +kernel] at h5
  have g := low_ge H (fun w => if w = "f" then 0 else if w ∈ sxR.map (·.w) then -3 else 0) (fun w => by split; decide; split <;> decide) (by decide +kernel)
  have ga := g "a"
  have gf := g "f"
  have gb := g "b"
  have gc := g "c"
  have gd := g "d"
  have ge := g "e"
  have nf := np "f"
  rw [show (if ("a" : Str) = "f" then (0 : Int) else if ("a" : Str) ∈ sxR.map (·.w) then -3 else 0) = -3 by decide +kernel] at ga
  rw [show (if ("b" : Str) = "f" then (0 : Int) else if ("b" : Str) ∈ sxR.map (·.w) then -3 else 0) = -3 by decide +kernel] at gb
  rw [show (if ("c" : Str) = "f" then (0 : Int) else if ("c" : Str) ∈ sxR.map (·.w) then -3 else 0) = -3 by decide +kernel] at gc
  rw [show (if ("d" : Str) = "f" then (0 : Int) else if ("d" : Str) ∈ sxR.map (·.w) then -3 else 0) = -3 by decide +kernel] at gd
  rw [show (if ("e" : Str) = "f" then (0 : Int) else if ("e" : Str) ∈ sxR.map (·.w) then -3 else 0) = -3 by decide +kernel] at ge
  rw [if_pos rfl] at gf
  have h1 : low "a" ≤ low "b" + 0 := h1
  have h2 : low "b" ≤ low "c" + 0 := h2
  have h3 : low "c" ≤ low "d" + 0 := h3
  have h4 : low "d" ≤ low "e" + 0 := h4
  have h5 : low "e" ≤ low "f" + -3 := h5
  omega
theorem ls_bar : BarW lsR 1 [("a", 0)] where
  ne := by simp
  rd := by decide +kernel
  cl := ⟨"a", rfl, by show tgI lsR ("a", 0) = "a"; decide +kernel⟩
  ng := by decide +kernel

theorem zipS_i {m : MA} {xc : XC} {es : Es} {eh : Eh} {qi : List EV → (Eh → Prop) → Eh → Prop} (h : m xc es eh fun xs eh1 => ∃ x y, xs = [.str x, .str y] ∧ qi (((sgnE x).zip (sgnE y)).map fun p => .tup [p.1, p.2]) (fun _ => True) eh1) : iZipS m xc es eh qi := h
theorem sgn_ab : sgnE (Str.ofString "abcd") = (["a", "b", "c", "d"] : List Str).map .str := by
  have e : (Str.ofString "abcd").cps.toList.map (fun c => (⟨#[c]⟩ : Str)) = (["a", "b", "c", "d"] : List Str) := by decide +kernel
  unfold sgnE
  rw [← e, List.map_map]; rfl
theorem sgn_bc : sgnE (Str.ofString "bcde") = (["b", "c", "d", "e"] : List Str).map .str := by
  have e : (Str.ofString "bcde").cps.toList.map (fun c => (⟨#[c]⟩ : Str)) = (["b", "c", "d", "e"] : List Str) := by decide +kernel
  unfold sgnE
  rw [← e, List.map_map]; rfl
theorem law_pure (ns : List Int) (hl : ns.length ≤ 63) (hb : ∀ z ∈ ns, Builtin.Int.intBits z ≤ 1048576) : fn_law xF [.scr ns] (fun _ => none) fun x _ => x = .bl true := by
  unfold fn_law ms_law
  walk_at "go"
  refine len_i (xs := ns.map .int) rfl ?_
  rw [List.length_map]
  walk_at "go"
  refine ⟨_, rfl, by split <;> (split <;> omega), ?_⟩
  refine for_inv (c := fun i : Nat => EV.int (i : Int)) (fun L es eh' => (∀ i ∈ L, i < 10) ∧ ∃ z1 z7 z8 : Option EV, es = [some (.scr ns), z1, none, none, none, none, none, z7, z8, none, none, none]) ⟨fun i hi => ?_, _, _, _, rfl⟩ ?_ ?_
  · have := List.mem_range.mp hi
    revert this
    split <;> (split <;> omega)
  · rintro i L es eh' ⟨hL, z1, z7, z8, rfl⟩
    have hi := hL i (by simp)
    refine ⟨trivial, asgx_i rfl fun d' _ hn _ _ => ?_⟩
    unfold bd_law_2
    walk_at "go"
    refine ⟨rfl, ?_⟩
    refine pool_ok hi hl fun p s hp hs => ?_
    walk_at "go"
    refine ⟨_, rfl, by omega, ?_⟩
    refine for_inv (c := fun i : Nat => EV.int (i : Int)) (fun L2 es eh2 => ∃ (s' : Int × Int × Int) (c : Int) (z8 : Option EV), eh2 p = some (rgO s') ∧ RgOk c s' ∧ c + 6000 * L2.length ≤ 36000 ∧ es = [some (.scr ns), some (.int i), none, none, none, none, none, some (.ref p), z8, none, none, none]) ⟨s, 0, _, eupd_same, hs, by simp, rfl⟩ ?_ ?_
    · rintro j L2 es eh2 ⟨s', c, z8, h1, h2, h3, rfl⟩
      simp only [List.length_cons] at h3
      refine ⟨trivial, asgx_i rfl fun d2 _ hn2 _ _ => ?_⟩
      unfold bd_law_1
      walk_at "go"
      refine right_fz rfl h1 h2 (by omega) fun s4 hs4 => ?_
      walk_at "go"
      exact hn2 _ _ ⟨s4, c + 6000, _, eupd_same, hs4.mono (by omega), by omega, rfl⟩
    · rintro es eh2 ⟨s', c, z8, h1, h2, h3, rfl⟩
      refine ⟨trivial, ?_⟩
      exact hn _ _ ⟨fun x hx => hL x (by simp [hx]), _, _, _, rfl⟩
  · rintro es eh' ⟨_, z1, z7, z8, rfl⟩
    refine ⟨trivial, ?_⟩
    walk_at "go"
    refine ⟨rfl, ?_⟩
    refine init_mz (dims := 1) (md := 1000003) (rows := chR) rfl ch_fit ?_
    rw [ch_sort]
    walk_at "go"
    refine ⟨rfl, ?_⟩
    refine init_mz (dims := 2) (md := 1000003) (rows := lsR) rfl ls_fit ?_
    rw [ls_sort]
    walk_at "go"
    refine zipS_i ?_
    walk_at "go"
    refine ⟨_, _, rfl, ?_⟩
    rw [sgn_ab, sgn_bc, show ((((["a", "b", "c", "d"] : List Str).map EV.str).zip ((["b", "c", "d", "e"] : List Str).map EV.str)).map fun p => EV.tup [p.1, p.2]) = ([("a", "b"), ("b", "c"), ("c", "d"), ("d", "e")] : List (Str × Str)).map fun p => EV.tup [.str p.1, .str p.2] from rfl]
    refine comp_map (c := fun p : Str × Str => EV.tup [.str p.1, .str p.2]) (f := fun p => rowE ⟨p.1, 0, [⟨p.2, [0], 1⟩]⟩) trivial (by decide) (fun u hu => asgx_i rfl fun q2 hq2 => ?_) ?_
    · unfold ce_law_3
      walk_at "go"
      exact hq2
    rw [List.nil_append]
    walk_at "go"
    refine addF_i (szL (by decide)) ?_
    walk_at "go"
    refine fz_i ?_
    walk_at "go"
    refine ⟨_, _, rfl, ?_⟩
    have e5 : ((Str.ofString "abcde").cps.toList.map fun c => EV.str ⟨#[c]⟩) = (["a", "b", "c", "d", "e"] : List Str).map .str := by
      have e : (Str.ofString "abcde").cps.toList.map (fun c => (⟨#[c]⟩ : Str)) = (["a", "b", "c", "d", "e"] : List Str) := by decide +kernel
      rw [← e, List.map_map]; rfl
    rw [e5]
    refine comp_map (c := EV.str) (f := fun w => EV.tup [.str w, .tup [.int (-3)]]) trivial (by decide) (fun u hu => asgx_i rfl fun q2 hq2 => ?_) ?_
    · unfold ce_law_4
      walk_at "go"
      exact hq2
    rw [List.nil_append]
    walk_at "go"
    refine addF_i (szL (by decide)) ?_
    walk_at "go"
    refine ⟨_, _, sftE (["a", "b", "c", "d", "e", "f"] : List Str) (fun w => if w = "f" then [0] else [-3]), rfl, rfl, rfl, fun p hp => ?_⟩
    rw [show mergeE [] (sftE (["a", "b", "c", "d", "e", "f"] : List Str) (fun w => if w = "f" then [0] else [-3])) = sftE (["a", "b", "c", "d", "e", "f"] : List Str) (fun w => if w = "f" then [0] else [-3]) from rfl]
    dsimp only
    rw [drE_new hp, fz_dct (k := 8) (by simp [nw, hp]) eupd_same, fz_sft]
    walk_at "go"
    have chl : LowsAt chR 0 := ⟨fun w => if w = "a" then -3 else 0, fun w => by dsimp only; split <;> decide, by decide +kernel⟩
    have sxl : LowsAt sxR 0 := ⟨fun w => if w = "f" then 0 else if w ∈ sxR.map (·.w) then -3 else 0, fun w => by dsimp only; split; decide; split <;> decide, by decide +kernel⟩
    refine gsh_fz2 rfl ch_fit (fun ⟨a, ha, W, B⟩ => ?_) fun T hT hL => ?_
    · have e0 : a = 0 := by have : a < 1 := ha; omega
      subst e0
      exact absurd B chl.no
    obtain ⟨t, rfl⟩ : ∃ t, T = [t] := List.length_eq_one_iff.mp hT
    obtain ⟨la, lb⟩ := ch_low (hL 0 t rfl)
    walk_at "go"
    refine gsh_fz2 rfl ls_fit (fun _ => ?_) fun T2 hT2 hL2 => ?_
    rotate_left
    · have ht : T2[1]? = some (T2[1]'(by rw [hT2]; decide)) := List.getElem?_eq_getElem (by rw [hT2]; decide)
      exact absurd ls_bar (LowsAt.no ⟨_, (hL2 1 _ ht).lows⟩)
    walk_at "go"
    refine ⟨rfl, ?_⟩
    refine init_mz (dims := 1) (md := 1000003) (rows := sxR) rfl sx_fit ?_
    rw [sx_sort]
    walk_at "go"
    refine gsh_fz2 rfl sx_fit (fun ⟨a, ha, W, B⟩ => ?_) fun T3 hT3 hL3 => ?_
    · have e0 : a = 0 := by have : a < 1 := ha; omega
      subst e0
      exact absurd B sxl.no
    obtain ⟨t3, rfl⟩ : ∃ t, T3 = [t] := List.length_eq_one_iff.mp hT3
    obtain ⟨sa, sb, sc, sd, se, sf⟩ := sx_low (hL3 0 t3 rfl)
    walk_at "go"
    refine fz_i ?_
    intro p2 hp2
    walk_at "go"
    refine ⟨eupd_same, rfl, ?_⟩
    rw [eupd_eupd]
    walk_at "go"
    have ew1 : chR.map (·.w) = (["a", "b"] : List Str) := rfl
    have ew2 : sxR.map (·.w) = (["a", "b", "c", "d", "e", "f"] : List Str) := rfl
    have g1 : shE (chR.map (·.w)) [t] = sftE (["a", "b"] : List Str) (fun w => if w = "b" then [0] else [-3]) := by
      rw [shE_sftX, ew1]
      show [((Sum.inr "a" : Key), EV.tup [.int (t.1 "a")]), (Sum.inr "b", EV.tup [.int (t.1 "b")])] = _
      rw [la, lb]; rfl
    have g2 : shE (sxR.map (·.w)) [t3] = sftE (["a", "b", "c", "d", "e", "f"] : List Str) (fun w => if w = "f" then [0] else [-3]) := by
      rw [shE_sftX, ew2]
      show [((Sum.inr "a" : Key), EV.tup [.int (t3.1 "a")]), (Sum.inr "b", EV.tup [.int (t3.1 "b")]), (Sum.inr "c", EV.tup [.int (t3.1 "c")]), (Sum.inr "d", EV.tup [.int (t3.1 "d")]), (Sum.inr "e", EV.tup [.int (t3.1 "e")]), (Sum.inr "f", EV.tup [.int (t3.1 "f")])] = _
      rw [sa, sb, sc, sd, se, sf]; rfl
    have hf : ∀ eh2, fz (nw eh') eh2 8 (.dct (sftE (["a", "b", "c", "d", "e", "f"] : List Str) fun w => if w = "f" then [0] else [-3])) = .dct (sftE (["a", "b", "c", "d", "e", "f"] : List Str) fun w => if w = "f" then [0] else [-3]) := fun eh2 => by
      show EV.dct ((sftE (["a", "b", "c", "d", "e", "f"] : List Str) fun w => if w = "f" then [0] else [-3]).map fun p => (p.1, fz (nw eh') eh2 7 p.2)) = _
      rw [fz_sft]
    have hz : (List.map Sum.inr ([Str.ofString "a", Str.ofString "b"] : List Str)).zip [EV.tup [EV.int (-3)], EV.tup [EV.int 0]] = sftE (["a", "b"] : List Str) (fun w => if w = "b" then [0] else [-3]) := rfl
    rw [hz, g1, g2]
    have hl3 : fz (nw eh') (eupd eh' p2 (some (.dct (sftE (["a", "b"] : List Str) (fun w => if w = "b" then [0] else [-3]))))) 9 (.lst [.ref p2, .non, .dct (sftE (["a", "b", "c", "d", "e", "f"] : List Str) fun w => if w = "f" then [0] else [-3])]) = .lst [.dct (sftE (["a", "b"] : List Str) (fun w => if w = "b" then [0] else [-3])), .non, .dct (sftE (["a", "b", "c", "d", "e", "f"] : List Str) fun w => if w = "f" then [0] else [-3])] := by
      show EV.lst [fz _ _ 8 (.ref p2), fz _ _ 8 .non, fz _ _ 8 (.dct _)] = _
      rw [hf, fz_dct (k := 7) (by simp [nw, hp2]) eupd_same, fz_sft]; rfl
    rw [hl3, drE_new hp2]
    have same : ∀ (ws : List Str) (φ : Str → List Int), ws.Nodup → SameD eh' (.dct (sftE ws φ)) (.dct (sftE ws φ)) := fun ws φ hn => .inr ⟨_, _, rfl, rfl, sft_pd, sft_pd, sft_nd hn, sft_nd hn, eqKV_self (sft_nd hn) fun p hp => (sft_pd p hp).p⟩
    refine ⟨_, _, rfl, rfl, rfl, fun i a b ha hb => ?_, rfl⟩
    match i, ha, hb with
    | 0, ha, hb => cases ha; cases hb; exact same _ _ (by decide +kernel)
    | 1, ha, hb => cases ha; cases hb; exact .inl ⟨rfl, rfl⟩
    | 2, ha, hb => cases ha; cases hb; exact same _ _ (by decide +kernel)
    | i + 3, ha, hb => cases ha

end LW
open PySem PySem.W PySem.Calls PyProof.Rows
theorem PySem.Challenge.cw_farreads_k30_greatest_shifts_holds : PySem.Challenge.rw_farreads_k30_greatest_shifts.Holds := by
  w_on; o_law
  refine HandSHeadRun.head_any (r := OpenLaw.row PySem.Challenge.rw_farreads_k30_greatest_shifts) (q := view (OpenLaw.row PySem.Challenge.rw_farreads_k30_greatest_shifts).prog [39]) (H := LW.hk) (ob := LW.ob) (M := 6000) (loose := LW.loose) (d := HandSHeadRun.topDef (OpenLaw.row PySem.Challenge.rw_farreads_k30_greatest_shifts).prog 39) (kwd := []) LW.ob_eq
    (by kernel_rfl) (fun s => by kernel_rfl) LW.run (by kernel_rfl) (by kernel_rfl) (by kernel_rfl) (by rfl) (by first | assumption | decide +kernel) (by decide +kernel) ⟨rfl, rfl, rfl, rfl, rfl, by decide +kernel⟩ ?hw ?hc
  case hw => w_witness2
  case hc =>
    refine VM.walk_end (l := PySem.Challenge.rw_farreads_k30_greatest_shifts) (n := 63) (k := 8) (x := "_law_script") rfl (by decide) (by kernel_rfl) ⟨rfl, by decide, by decide⟩ ?F
    intro w mg fa h Y G hmg0
    obtain ⟨K, KX, c⟩ := Y
    have hmg : mg ("law" : PySem.Str) = some (.ref fa) := by
      have e : (HandSHeadRun.topDef (OpenLaw.row PySem.Challenge.rw_farreads_k30_greatest_shifts).prog 39).name = ("law" : PySem.Str) := by kernel_rfl
      rw [← e]
      exact hmg0
    have e := hmg.symm.trans (He.glo_ok KX G (c.x.t.d.fact 55 (f := .glo "law") rfl))
    cases e
    obtain ⟨fd, F⟩ := c.x.t.d.def_ 0 (d := LW.d_law) rfl
    have b := L2.FunD.bindsA (ps := ["_law_script"]) F fun _ _ _ _ _ _ us hl => match us, hl with | [_], _ => rfl
    exact ⟨K, KX, VM.end_at (F := LW.fn_law) KX G c (fun s v => b s [v] rfl) (fun base W => LW.ok_law W F) fun ns hl hb => LW.law_pure ns hl hb⟩
