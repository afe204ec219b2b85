import PyProof.Rows.All
import Wide.All
import OpenK.AllK
import Wide.FinOn
import HandS.ForMost
import KE.KeyNested
import KE.KDictKeyed
import HandS.ForExc
import HandS.Defaults
import HandS.Deep
import HandS.HeadHook1
import HandS.HeadHook2
import HandS.HeadHook3
import HandS.HeadHook4
import HandS.Lambda
import HandS.ExcCtx
import HandS.HotCalls
import KE.DataEq
import HandS.WideBits
import HandS.Wide
import HandS.TupMul
import KE.SortData
import HandS.Zip
import HandS.Comp
import HandS.MakeKw
import HandS.Property
import HandS.Star
import HandS.More
import HandS.ExcOwn
import KE.DatumOrd
import HandS.IsInst
import PyProof.ReprReads
import KE.SortKeyHeap
import KE.KLam
import HandS.Style
import HandS.Iter
import HandS.TupAny
import HandS.Conv
import PyProof.ReprRoads
import HandS.DeepEq
import KE.KEqNest
import HandS.Codes
import KE.KExcSuper
import KE.KExcIs
import KE.KIsAll
import HandS.ExcInit
import HandS.ExcSuper
import HandS.ExcValue
import HandS.Text
import PyProof.Rows.CountFlat
import HandS.TryOnly
import PyProof.StrOps2
import KE.KxAffix
import KE.IntTextText
import HandS.DictComp
import HandS.Dict
import KE.KDictList
import KE.KDictZip
import HandS.ListItems
import PyProof.ListStr
import PyProof.ListMulRoad
import PyProof.FactsAll.tuple_2
import KE.KDictPairs
import PyProof.Rows.TupIter
import HandS.TupSets
import HandS.SetKeys
import HandS.DictTup
import KE.KDictDisplayH
import HandS.Flow
import KE.GoesMore
import KE.GoesEnum
import HandS.SetFor
import HandS.SetTxt0
import HandS.Strs
import PyProof.Rows.SortShellAny
import PyProof.NeKinds
import KE.DataCmp
import HandS.Finally
import HandS.Small
import HandS.TupLen
import KE.KEqDict
import HandS.DictEq
import PyProof.EqKinds
import PyProof.DictFindH
import HandS.HeadWalk
import HandS.NestedK
import HandS.Head2
import KE.IntBitsLaws
import PySem.Challenge.RW_farreads_k12_needed_cells
set_option Elab.async false
set_option linter.all false
set_option maxRecDepth 100000
set_option maxHeartbeats 4000000
/-! VM0: which defs hold lambdas (specialised for each proof): the def, its lambda's name. -/
namespace VM
open PySem PySem.Spec PyProof.Rows L2
def tfs : List (He.Defn × Str) := [(("System", some "__init__"), "System.__init__.<locals>.<lambda>"), (("needed", none), "needed.<locals>.<lambda>")]
/-- the classes that isinstance is asked of -/
def xcs : List Str := ["System"]
end VM

/-! VM1: values as trees over the hand layer: EV, what it says of V and Hp (Rp), states (Rl), steps, readings of shallow terms (U, US). -/
namespace VM
open PySem PySem.Spec PyProof.Rows L2

/-- room for k calls, and no repr is under way -/
structure RoomG (k : Nat) (A : Around) : Prop where
  r : Room k A
  g : A.guards = some []
namespace RoomG
variable {i k : Nat} {A : Around}
theorem mono (h : RoomG k A) (l : i ≤ k) : RoomG i A := ⟨h.r.mono l, h.g⟩
theorem deeper (h : RoomG (k + 1) A) (v : Env) : RoomG k (A.deeper v) := ⟨h.r.deeper v, h.g⟩
theorem in1 (h : RoomG (k + 1) A) : RoomG k A.in1 := ⟨h.r.in1, h.g⟩
theorem make (h : RoomG (k + 1) A) (c : Addr) (as : List Value) (kw : List (Str × Value)) : RoomG k (A.under (.builtin "type.__call__" ⟨.ref c :: as, kw⟩)) :=
  ⟨h.r.make c as kw, by show pushGuards (Code.guards (.builtin "type.__call__" ⟨.ref c :: as, kw⟩)) A.guards = _; rw [h.g]; rfl⟩
theorem hd (h : RoomG k A) : A.handled = none := h.r.hd
theorem units (h : RoomG k A) : A.units + 64 < cLine := h.r.units
theorem dp (h : RoomG k A) : A.depth + 3 * k + 5 < recursionLimit := h.r.dp
end RoomG

/-- the tables of code objects, by the defs that make lambdas -/
def tabT (K : PySem.W.Frag) : List (Addr × Str) := tfs.map fun p => ((He.cT K p.1).2, p.2)

/-- what the names of the module stand for, and the world (its hashes) -/
structure MW where
  m : Str → Option Value
  w : World
instance : CoeFun MW (fun _ => Str → Option Value) := ⟨MW.m⟩
abbrev _root_.L2.Cx.mw (X : Cx) : MW := ⟨X.mg, X.w⟩

inductive EV where
  | non | bl (b : Bool) | int (i : Int) | str (x : Str) | ty (n : String)
  | ref (a : Addr) | glo (x : Str) | scr (ns : List Int)
  | tup (xs : List EV) | lst (xs : List EV) | dct (kvs : List (Key × EV)) | obj (C : Str) (fs : List (Str × EV)) | exc (C : Str) (x : EV) | exa (a : Addr) (C : Str) (x : EV) | dn (kvs : List (NestedKey × EV))
  deriving Inhabited
inductive EO where
  | lst (xs : List EV) | dct (kvs : List (Key × EV)) | ins (C : Str) (fs : List (Str × EV)) | dN (kvs : List (NestedKey × EV))
abbrev Es := List (Option EV)
abbrev Eh := Addr → Option EO
def eupd (h : Eh) (a : Addr) (o : Option EO) : Eh := fun b => if b = a then o else h b
theorem eupd_same {h : Eh} {a : Addr} {o : Option EO} : eupd h a o a = o := by simp [eupd]
theorem eupd_ne {h : Eh} {a b : Addr} {o : Option EO} (n : b ≠ a) : eupd h a o b = h b := by simp [eupd, n]
theorem eupd_eupd {h : Eh} {a : Addr} {o u : Option EO} : eupd (eupd h a o) a u = eupd h a u := by funext b; unfold eupd; split <;> rfl
theorem eupd_self {h : Eh} {a : Addr} {o : Option EO} (e : h a = o) : eupd h a o = h := by
  funext b; unfold eupd; split
  · rename_i z; rw [z, e]
  · rfl

/-- an exception that is held: its class, its dict -/
abbrev exh (a : Addr) (cls : Value) (d : Option Addr) : HO := .ext fun h => ∃ (oe : Obj) (vs : Array Value), h.get? a = some oe ∧ L2N.Zn cls d oe ∧ oe.data = .fields vs
mutual
/-- the key a value stands for -/
def KeyIs (K : PySem.W.Frag) (H : Hp) : NestedKey → V → Prop
  | .none, v => v = .non
  | .num i, v => v = .int i
  | .text x, v => v = .str x
  | .tup ks, v => ∃ a vs, v = .ref a ∧ SqT K H a vs ∧ KeysAre K H ks vs
def KeysAre (K : PySem.W.Frag) (H : Hp) : List NestedKey → List V → Prop
  | [], vs => vs = []
  | k :: ks, vs => ∃ v r, vs = v :: r ∧ KeyIs K H k v ∧ KeysAre K H ks r
end
/-- a dict whose keys are tuples (of tuples) of ints, texts and None: its entries -/
abbrev dictN (w : World) (a : Addr) (xs : List (NestedKey × Addr × Value)) : HO := .ext fun h => ∃ o es ep, h.get? a = some o ∧ o.ExactDict ∧ o.data = .dict es ep ∧ es.toList = xs.map (fun x => (⟨x.1.hash w, .ref x.2.1, x.2.2⟩ : DictEntry)) ∧ (xs.map (·.1)).Nodup
/-- a list that nobody writes -/
def ScrAt (K : PySem.W.Frag) (Hd : Addr → Prop) (eh : Eh) (H : Hp) (a : Addr) (vs : List V) : Prop :=
  (∃ o, H a = some (.frz o (.lst vs))) ∨ (H a = some (.lst vs) ∧ eh a = none ∧ ¬ Hd a) ∨
    ∃ (o : Obj) (its : Array Value) (n : Nat), K.lookup a = some o ∧ o.cls = .type "list" ∧ o.dict = none ∧ o.data = .seq its n ∧ its.size ≤ sizeLine ∧ Vals vs its.toList
section
variable (K : PySem.W.Frag) (mg : MW) (Hd : Addr → Prop) (eh : Eh) (H : Hp)
mutual
def Rp : EV → V → Prop
  | .non, v => v = .non
  | .bl b, v => v = .bl b
  | .int i, v => v = .int i
  | .str x, v => v = .str x
  | .ty n, v => v = .ty n
  | .ref a, v => v = .ref a
  | .glo x, v => ∃ u, mg x = some u ∧ RelV v u
  | .tup xs, v => ∃ a vs, v = .ref a ∧ SqT K H a vs ∧ RpL xs vs
  | .scr ns, v => ∃ a, v = .ref a ∧ ScrAt K Hd eh H a (ns.map V.int)
  | .lst xs, v => ∃ a vs, v = .ref a ∧ H a = some (.lst vs) ∧ (eh a = none ∧ ¬ Hd a) ∧ RpL xs vs
  | .dct kvs, v => ∃ a o us, v = .ref a ∧ H a = some (.frz o (.dK us)) ∧ RpK kvs us
  | .obj C fs, v => ∃ a c dx us, v = .ref a ∧ mg C = some (.ref c) ∧ H a = some (.ins c dx us) ∧ (eh a = none ∧ ¬ Hd a) ∧ RpF fs us
  | .exc C x, v => ∃ a c d u, v = .ref a ∧ mg C = some (.ref c) ∧ H a = some (exh a (.ref c) (some d)) ∧ H d = some (.xd [("value", u)]) ∧ (eh a = none ∧ ¬ Hd a) ∧ (eh d = none ∧ ¬ Hd d) ∧ Rp x u
  | .exa b C x, v => ∃ a c d u, (v = .ref a ∧ b = a) ∧ mg C = some (.ref c) ∧ H a = some (exh a (.ref c) (some d)) ∧ H d = some (.xd [("value", u)]) ∧ (eh a = none ∧ ¬ Hd a) ∧ (eh d = none ∧ ¬ Hd d) ∧ Rp x u
  | .dn kvs, v => ∃ (a : Addr) (o : Obj) (xs : List (NestedKey × Addr × Value)) (us : List V), v = .ref a ∧ H a = some (.frz o (dictN mg.w a xs)) ∧ ((a == sysModules) = false ∧ xs.length ≤ sizeLine ∧ kvs.map (·.1) = xs.map (·.1) ∧ (∀ x ∈ xs, KeyIs K H x.1 (.ref x.2.1) ∧ x.1.depth ≤ 8) ∧ Vals us (xs.map (·.2.2))) ∧ RpN kvs us
def RpL : List EV → List V → Prop
  | [], vs => vs = []
  | x :: xs, vs => ∃ v r, vs = v :: r ∧ Rp x v ∧ RpL xs r
def RpK : List (Key × EV) → List (Key × V) → Prop
  | [], us => us = []
  | (k, x) :: ps, us => ∃ v r, us = (k, v) :: r ∧ Rp x v ∧ RpK ps r
def RpF : List (Str × EV) → List (Str × V) → Prop
  | [], us => us = []
  | (k, x) :: ps, us => ∃ v r, us = (k, v) :: r ∧ Rp x v ∧ RpF ps r
def RpN : List (NestedKey × EV) → List V → Prop
  | [], us => us = []
  | (_, x) :: ps, us => ∃ v r, us = v :: r ∧ Rp x v ∧ RpN ps r
end
def RpO (a : Addr) : EO → Prop
  | .lst xs => ∃ vs, H a = some (.lst vs) ∧ RpL K mg Hd eh H xs vs
  | .dct kvs => ∃ us, H a = some (.dK us) ∧ RpK K mg Hd eh H kvs us
  | .ins C fs => ∃ c dx us, mg C = some (.ref c) ∧ H a = some (.ins c dx us) ∧ RpF K mg Hd eh H fs us
  | .dN kvs => ∃ (xs : List (NestedKey × Addr × Value)) (us : List V), H a = some (dictN mg.w a xs) ∧ (a == sysModules) = false ∧ xs.length ≤ sizeLine ∧ kvs.map (·.1) = xs.map (·.1) ∧ (∀ x ∈ xs, KeyIs K H x.1 (.ref x.2.1) ∧ x.1.depth ≤ 8) ∧ Vals us (xs.map (·.2.2)) ∧ RpL K mg Hd eh H (kvs.map (·.2)) us
structure Rh : Prop where
  tb : LamX.Tabs (tabT K) H
  ob : ∀ a o, eh a = some o → RpO K mg Hd eh H a o
  hd : ∀ a, Hd a → (∃ vs, H a = some (.lst vs)) ∧ eh a = none
structure Rl (es : Es) (σ : L2.St) : Prop where
  len : es.length = σ.length
  loc : ∀ (i : Nat) (x : EV), es[i]? = some (some x) → ∃ v, σ[i]? = some (some v) ∧ Rp K mg Hd eh H x v
  obj : Rh K mg Hd eh H
end

mutual
theorem KeyIs.ext {K : PySem.W.Frag} {H H' : Hp} (e : ∀ a vs, SqT K H a vs → SqT K H' a vs) : ∀ {k : NestedKey} {v : V}, KeyIs K H k v → KeyIs K H' k v
  | .none, _, h => h
  | .num _, _, h => h
  | .text _, _, h => h
  | .tup _, _, ⟨a, vs, z, h, r⟩ => ⟨a, vs, z, e a vs h, KeysAre.ext e r⟩
theorem KeysAre.ext {K : PySem.W.Frag} {H H' : Hp} (e : ∀ a vs, SqT K H a vs → SqT K H' a vs) : ∀ {k : List NestedKey} {v : List V}, KeysAre K H k v → KeysAre K H' k v
  | [], _, h => h
  | _ :: _, _, ⟨v, r, z, h, t⟩ => ⟨v, r, z, KeyIs.ext e h, KeysAre.ext e t⟩
end
theorem dictN_ne {w : World} {a c : Addr} {xs : List (NestedKey × Addr × Value)} {q : Str} : dictN w a xs ≠ LamX.CodeO c q := fun z => by
  have e := HO.ext.inj z
  let ob : Obj := { cls := .none, data := .fields #[.none, .str q 0] }
  let h0 : Heap := { objs := Array.replicate (c + 1) ob }
  have g : ∀ b o, h0.get? b = some o → o = ob := fun b o hb => by
    unfold Heap.get? at hb
    have r : h0.objs[b]? = none ∨ h0.objs[b]? = some ob := by
      show (Array.replicate (c + 1) ob)[b]? = none ∨ (Array.replicate (c + 1) ob)[b]? = some ob
      rw [Array.getElem?_replicate]
      split
      · exact .inr rfl
      · exact .inl rfl
    rcases r with r | r
    · rw [r] at hb; cases hb
    · rw [r] at hb; cases hb; rfl
  have hc : h0.get? c = some ob := by
    unfold Heap.get?
    have r : h0.objs[c]? = some ob := by
      show (Array.replicate (c + 1) ob)[c]? = some ob
      rw [Array.getElem?_replicate, if_pos (Nat.lt_succ_self c)]
    rw [r]
  have y := congrFun e h0
  have p : ∃ (oc : Obj) (vs : Array Value) (t : Tok), h0.get? c = some oc ∧ oc.data = .fields vs ∧ vs[1]? = some (.str q t) := ⟨ob, _, 0, hc, rfl, rfl⟩
  rw [← y] at p
  obtain ⟨o, es, ep, h1, _, h2, _⟩ := p
  rw [g a o h1] at h2
  cases h2

structure Step (eh : Eh) (H : Hp) (eh' : Eh) (H' : Hp) : Prop where
  st : ∀ a o, H a = some o → eh a = none → (∀ ps, o ≠ .tbl ps) → H' a = some o ∧ eh' a = none
  tup : ∀ a xs, H a = some (.tup xs) → H' a = some (.tup xs)
  frz : ∀ a o u, H a = some (.frz o u) → H' a = some (.frz o u)
theorem Step.refl {eh : Eh} {H : Hp} : Step eh H eh H := ⟨fun _ _ h n _ => ⟨h, n⟩, fun _ _ h => h, fun _ _ _ h => h⟩
theorem Step.trans {eh eh1 eh2 : Eh} {H H1 H2 : Hp} (a : Step eh H eh1 H1) (b : Step eh1 H1 eh2 H2) : Step eh H eh2 H2 :=
  ⟨fun c o h n t => let ⟨h1, n1⟩ := a.st c o h n t; b.st c o h1 n1 t, fun c xs h => b.tup c xs (a.tup c xs h), fun c o u h => b.frz c o u (a.frz c o u h)⟩

/-- the same, but for what is hidden -/
structure StepW (Hd : Addr → Prop) (eh : Eh) (H : Hp) (eh' : Eh) (H' : Hp) : Prop where
  st : ∀ a o, H a = some o → eh a = none → (∀ ps, o ≠ .tbl ps) → ¬ Hd a → H' a = some o ∧ eh' a = none
  tup : ∀ a xs, H a = some (.tup xs) → H' a = some (.tup xs)
  frz : ∀ a o u, H a = some (.frz o u) → H' a = some (.frz o u)
theorem Step.w {Hd : Addr → Prop} {eh eh' : Eh} {H H' : Hp} (s : Step eh H eh' H') : StepW Hd eh H eh' H' := ⟨fun a o h n t _ => s.st a o h n t, s.tup, s.frz⟩
theorem StepW.trans {Hd : Addr → Prop} {eh eh1 eh2 : Eh} {H H1 H2 : Hp} (a : StepW Hd eh H eh1 H1) (b : StepW Hd eh1 H1 eh2 H2) : StepW Hd eh H eh2 H2 :=
  ⟨fun c o h n t m => let ⟨h1, n1⟩ := a.st c o h n t m; b.st c o h1 n1 t m, fun c xs h => b.tup c xs (a.tup c xs h), fun c o u h => b.frz c o u (a.frz c o u h)⟩
section
variable {K : PySem.W.Frag} {mg : MW} {Hd : Addr → Prop} {eh eh' : Eh} {H H' : Hp}
theorem SqT.stepW (s : StepW Hd eh H eh' H') {a : Addr} {vs : List V} (h : SqT K H a vs) : SqT K H' a vs := by
  rcases h with (h | ⟨o, h⟩) | h
  · exact .inl (.inl (s.tup _ _ h))
  · exact .inl (.inr ⟨o, s.frz _ _ _ h⟩)
  · exact .inr h
mutual
theorem Rp.stepW (s : StepW Hd eh H eh' H') : ∀ {x : EV} {v : V}, Rp K mg Hd eh H x v → Rp K mg Hd eh' H' x v
  | .non, _, h => h
  | .bl _, _, h => h
  | .int _, _, h => h
  | .str _, _, h => h
  | .ty _, _, h => h
  | .ref _, _, h => h
  | .glo _, _, h => h
  | .tup xs, _, ⟨a, vs, e, h, r⟩ => ⟨a, vs, e, SqT.stepW s h, RpL.stepW s r⟩
  | .scr ns, _, ⟨a, e, h⟩ => ⟨a, e, by
    rcases h with ⟨o, h⟩ | ⟨h, n, m⟩ | h
    · exact .inl ⟨o, s.frz _ _ _ h⟩
    · exact .inr (.inl ⟨(s.st _ _ h n (fun _ z => nomatch z) m).1, (s.st _ _ h n (fun _ z => nomatch z) m).2, m⟩)
    · exact .inr (.inr h)⟩
  | .lst xs, _, ⟨a, vs, e, h, n, r⟩ => ⟨a, vs, e, (s.st _ _ h n.1 (fun _ z => nomatch z) n.2).1, ⟨(s.st _ _ h n.1 (fun _ z => nomatch z) n.2).2, n.2⟩, RpL.stepW s r⟩
  | .dct xs, _, ⟨a, o, vs, e, h, r⟩ => ⟨a, o, vs, e, s.frz _ _ _ h, RpK.stepW s r⟩
  | .obj C fs, _, ⟨a, c, dx, us, e, m, h, n, r⟩ => ⟨a, c, dx, us, e, m, (s.st _ _ h n.1 (fun _ z => nomatch z) n.2).1, ⟨(s.st _ _ h n.1 (fun _ z => nomatch z) n.2).2, n.2⟩, RpF.stepW s r⟩
  | .exc C x, _, ⟨a, c, d, u, e, m, h, h', n, n', r⟩ => ⟨a, c, d, u, e, m, (s.st _ _ h n.1 (fun _ z => nomatch z) n.2).1, (s.st _ _ h' n'.1 (fun _ z => nomatch z) n'.2).1, ⟨(s.st _ _ h n.1 (fun _ z => nomatch z) n.2).2, n.2⟩, ⟨(s.st _ _ h' n'.1 (fun _ z => nomatch z) n'.2).2, n'.2⟩, Rp.stepW s r⟩
  | .exa _ C x, _, ⟨a, c, d, u, e, m, h, h', n, n', r⟩ => ⟨a, c, d, u, e, m, (s.st _ _ h n.1 (fun _ z => nomatch z) n.2).1, (s.st _ _ h' n'.1 (fun _ z => nomatch z) n'.2).1, ⟨(s.st _ _ h n.1 (fun _ z => nomatch z) n.2).2, n.2⟩, ⟨(s.st _ _ h' n'.1 (fun _ z => nomatch z) n'.2).2, n'.2⟩, Rp.stepW s r⟩
  | .dn xs, _, ⟨a, o, ys, us, e, h, ⟨z1, z2, z3, z4, z5⟩, r⟩ => ⟨a, o, ys, us, e, s.frz _ _ _ h, ⟨z1, z2, z3, fun x hx => ⟨(z4 x hx).1.ext fun _ _ w => SqT.stepW s w, (z4 x hx).2⟩, z5⟩, RpN.stepW s r⟩
theorem RpL.stepW (s : StepW Hd eh H eh' H') : ∀ {x : List EV} {v : List V}, RpL K mg Hd eh H x v → RpL K mg Hd eh' H' x v
  | [], _, h => h
  | _ :: _, _, ⟨v, r, e, h, t⟩ => ⟨v, r, e, Rp.stepW s h, RpL.stepW s t⟩
theorem RpK.stepW (s : StepW Hd eh H eh' H') : ∀ {x : List (Key × EV)} {v : List (Key × V)}, RpK K mg Hd eh H x v → RpK K mg Hd eh' H' x v
  | [], _, h => h
  | (_, _) :: _, _, ⟨v, r, e, h, t⟩ => ⟨v, r, e, Rp.stepW s h, RpK.stepW s t⟩
theorem RpF.stepW (s : StepW Hd eh H eh' H') : ∀ {x : List (Str × EV)} {v : List (Str × V)}, RpF K mg Hd eh H x v → RpF K mg Hd eh' H' x v
  | [], _, h => h
  | (_, _) :: _, _, ⟨v, r, e, h, t⟩ => ⟨v, r, e, Rp.stepW s h, RpF.stepW s t⟩
theorem RpN.stepW (s : StepW Hd eh H eh' H') : ∀ {x : List (NestedKey × EV)} {v : List V}, RpN K mg Hd eh H x v → RpN K mg Hd eh' H' x v
  | [], _, h => h
  | (_, _) :: _, _, ⟨v, r, e, h, t⟩ => ⟨v, r, e, Rp.stepW s h, RpN.stepW s t⟩
end
theorem SqT.step (s : Step eh H eh' H') {a : Addr} {vs : List V} (h : SqT K H a vs) : SqT K H' a vs := SqT.stepW (Hd := fun _ => False) s.w h
theorem Rp.step (s : Step eh H eh' H') {x : EV} {v : V} (h : Rp K mg Hd eh H x v) : Rp K mg Hd eh' H' x v := h.stepW s.w
theorem RpL.step (s : Step eh H eh' H') {x : List EV} {v : List V} (h : RpL K mg Hd eh H x v) : RpL K mg Hd eh' H' x v := h.stepW s.w
theorem RpK.step (s : Step eh H eh' H') {x : List (Key × EV)} {v : List (Key × V)} (h : RpK K mg Hd eh H x v) : RpK K mg Hd eh' H' x v := h.stepW s.w
theorem RpF.step (s : Step eh H eh' H') {x : List (Str × EV)} {v : List (Str × V)} (h : RpF K mg Hd eh H x v) : RpF K mg Hd eh' H' x v := h.stepW s.w
theorem ScrAt.sq {K : PySem.W.Frag} {Hd : Addr → Prop} {eh : Eh} {H : Hp} {a : Addr} {vs : List V} (h : ScrAt K Hd eh H a vs) : SqL K H a vs := by
  rcases h with h | ⟨h, _⟩ | h
  · exact .inl (.inr h)
  · exact .inl (.inl h)
  · exact .inr h
/-- more is hidden, of what was not there -/
theorem hid_ok {Hd Hd' : Addr → Prop} {eh : Eh} {H : Hp} (i : ∀ a, Hd' a → Hd a ∨ H a = none) {a : Addr} {o : HO} (h : H a = some o) (n : ¬ Hd a) : ¬ Hd' a := fun z => by
  rcases i a z with z | z
  · exact n z
  · rw [h] at z; cases z
mutual
theorem Rp.hid {Hd Hd' : Addr → Prop} (i : ∀ a, Hd' a → Hd a ∨ H a = none) : ∀ {x : EV} {v : V}, Rp K mg Hd eh H x v → Rp K mg Hd' eh H x v
  | .non, _, h => h
  | .bl _, _, h => h
  | .int _, _, h => h
  | .str _, _, h => h
  | .ty _, _, h => h
  | .ref _, _, h => h
  | .glo _, _, h => h
  | .tup xs, _, ⟨a, vs, e, h, r⟩ => ⟨a, vs, e, h, RpL.hid i r⟩
  | .scr ns, _, ⟨a, e, h⟩ => ⟨a, e, by
    rcases h with ⟨o, h⟩ | ⟨h, n, m⟩ | h
    · exact .inl ⟨o, h⟩
    · exact .inr (.inl ⟨h, n, hid_ok (eh := eh) i h m⟩)
    · exact .inr (.inr h)⟩
  | .lst xs, _, ⟨a, vs, e, h, n, r⟩ => ⟨a, vs, e, h, ⟨n.1, hid_ok (eh := eh) i h n.2⟩, RpL.hid i r⟩
  | .dct xs, _, ⟨a, o, vs, e, h, r⟩ => ⟨a, o, vs, e, h, RpK.hid i r⟩
  | .obj C fs, _, ⟨a, c, dx, us, e, m, h, n, r⟩ => ⟨a, c, dx, us, e, m, h, ⟨n.1, hid_ok (eh := eh) i h n.2⟩, RpF.hid i r⟩
  | .exc C x, _, ⟨a, c, d, u, e, m, h, h', n, n', r⟩ => ⟨a, c, d, u, e, m, h, h', ⟨n.1, hid_ok (eh := eh) i h n.2⟩, ⟨n'.1, hid_ok (eh := eh) i h' n'.2⟩, Rp.hid i r⟩
  | .exa _ C x, _, ⟨a, c, d, u, e, m, h, h', n, n', r⟩ => ⟨a, c, d, u, e, m, h, h', ⟨n.1, hid_ok (eh := eh) i h n.2⟩, ⟨n'.1, hid_ok (eh := eh) i h' n'.2⟩, Rp.hid i r⟩
  | .dn xs, _, ⟨a, o, ys, us, e, h, z, r⟩ => ⟨a, o, ys, us, e, h, z, RpN.hid i r⟩
theorem RpL.hid {Hd Hd' : Addr → Prop} (i : ∀ a, Hd' a → Hd a ∨ H a = none) : ∀ {x : List EV} {v : List V}, RpL K mg Hd eh H x v → RpL K mg Hd' eh H x v
  | [], _, h => h
  | _ :: _, _, ⟨v, r, e, h, t⟩ => ⟨v, r, e, Rp.hid i h, RpL.hid i t⟩
theorem RpK.hid {Hd Hd' : Addr → Prop} (i : ∀ a, Hd' a → Hd a ∨ H a = none) : ∀ {x : List (Key × EV)} {v : List (Key × V)}, RpK K mg Hd eh H x v → RpK K mg Hd' eh H x v
  | [], _, h => h
  | (_, _) :: _, _, ⟨v, r, e, h, t⟩ => ⟨v, r, e, Rp.hid i h, RpK.hid i t⟩
theorem RpF.hid {Hd Hd' : Addr → Prop} (i : ∀ a, Hd' a → Hd a ∨ H a = none) : ∀ {x : List (Str × EV)} {v : List (Str × V)}, RpF K mg Hd eh H x v → RpF K mg Hd' eh H x v
  | [], _, h => h
  | (_, _) :: _, _, ⟨v, r, e, h, t⟩ => ⟨v, r, e, Rp.hid i h, RpF.hid i t⟩
theorem RpN.hid {Hd Hd' : Addr → Prop} (i : ∀ a, Hd' a → Hd a ∨ H a = none) : ∀ {x : List (NestedKey × EV)} {v : List V}, RpN K mg Hd eh H x v → RpN K mg Hd' eh H x v
  | [], _, h => h
  | (_, _) :: _, _, ⟨v, r, e, h, t⟩ => ⟨v, r, e, Rp.hid i h, RpN.hid i t⟩
end
theorem RpO.hid {Hd Hd' : Addr → Prop} (i : ∀ a, Hd' a → Hd a ∨ H a = none) {a : Addr} {o : EO} (h : RpO K mg Hd eh H a o) : RpO K mg Hd' eh H a o := by
  cases o with
  | lst xs => obtain ⟨vs, q, r⟩ := h; exact ⟨vs, q, r.hid i⟩
  | dct xs => obtain ⟨vs, q, r⟩ := h; exact ⟨vs, q, r.hid i⟩
  | ins C fs => obtain ⟨c, dx, us, m, q, r⟩ := h; exact ⟨c, dx, us, m, q, r.hid i⟩
  | dN xs => obtain ⟨ys, us, q, z, hz, e, k, v, r⟩ := h; exact ⟨ys, us, q, z, hz, e, k, v, r.hid i⟩
/-- less is hidden -/
theorem Rh.less {Hd Hd' : Addr → Prop} (R : Rh K mg Hd eh H) (i : ∀ a, Hd' a → Hd a) : Rh K mg Hd' eh H := ⟨R.tb, fun a o e => (R.ob a o e).hid fun a z => .inl (i a z), fun a z => R.hd a (i a z)⟩
theorem RpN.toL : ∀ {xs : List (NestedKey × EV)} {vs : List V}, RpN K mg Hd eh H xs vs → RpL K mg Hd eh H (xs.map (·.2)) vs
  | [], _, h => h
  | (_, _) :: _, _, ⟨v, r, e, h, t⟩ => ⟨v, r, e, h, RpN.toL t⟩
theorem RpN.ofL : ∀ {xs : List (NestedKey × EV)} {vs : List V}, RpL K mg Hd eh H (xs.map (·.2)) vs → RpN K mg Hd eh H xs vs
  | [], _, h => h
  | (_, _) :: _, _, ⟨v, r, e, h, t⟩ => ⟨v, r, e, h, RpN.ofL t⟩
theorem RpL.length : ∀ {xs : List EV} {vs : List V}, RpL K mg Hd eh H xs vs → xs.length = vs.length
  | [], _, h => by cases h; rfl
  | _ :: _, _, ⟨_, _, e, _, t⟩ => by subst e; simp [RpL.length t]
theorem RpL.get : ∀ {xs : List EV} {vs : List V} {i : Nat} {x : EV}, RpL K mg Hd eh H xs vs → xs[i]? = some x → ∃ v, vs[i]? = some v ∧ Rp K mg Hd eh H x v
  | [], _, _, _, _, e => by simp at e
  | _ :: _, _, 0, _, ⟨v, r, e, h, t⟩, z => by subst e; simp at z; subst z; exact ⟨v, rfl, h⟩
  | _ :: _, _, i + 1, _, ⟨v, r, e, h, t⟩, z => by subst e; simpa using RpL.get t (by simpa using z)
theorem RpL.get' : ∀ {xs : List EV} {vs : List V} {i : Nat} {v : V}, RpL K mg Hd eh H xs vs → vs[i]? = some v → ∃ x, xs[i]? = some x ∧ Rp K mg Hd eh H x v
  | [], _, _, _, h, e => by cases h; simp at e
  | x :: _, _, 0, _, ⟨v, r, e, h, t⟩, z => by subst e; simp at z; subst z; exact ⟨x, rfl, h⟩
  | _ :: _, _, i + 1, _, ⟨v, r, e, h, t⟩, z => by subst e; simpa using RpL.get' t (by simpa using z)
theorem RpL.append : ∀ {xs ys : List EV} {vs us : List V}, RpL K mg Hd eh H xs vs → RpL K mg Hd eh H ys us → RpL K mg Hd eh H (xs ++ ys) (vs ++ us)
  | [], _, _, _, h, t => by cases h; exact t
  | _ :: _, _, _, _, ⟨v, r, e, h, t⟩, z => by subst e; exact ⟨v, _, rfl, h, RpL.append t z⟩
theorem RpL.nil : RpL K mg Hd eh H [] [] := rfl
theorem RpL.cons {x : EV} {v : V} {xs : List EV} {vs : List V} (h : Rp K mg Hd eh H x v) (t : RpL K mg Hd eh H xs vs) : RpL K mg Hd eh H (x :: xs) (v :: vs) := ⟨v, vs, rfl, h, t⟩
theorem RpL.one {x : EV} {v : V} (h : Rp K mg Hd eh H x v) : RpL K mg Hd eh H [x] [v] := .cons h .nil
theorem RpL.take : ∀ {xs : List EV} {vs : List V} (n : Nat), RpL K mg Hd eh H xs vs → RpL K mg Hd eh H (xs.take n) (vs.take n)
  | _, _, 0, _ => by simp [RpL]
  | [], _, _ + 1, h => by cases h; exact rfl
  | _ :: _, _, n + 1, ⟨v, r, e, h, t⟩ => by subst e; exact ⟨v, _, rfl, h, RpL.take n t⟩
theorem RpL.drop : ∀ {xs : List EV} {vs : List V} (n : Nat), RpL K mg Hd eh H xs vs → RpL K mg Hd eh H (xs.drop n) (vs.drop n)
  | _, _, 0, h => h
  | [], _, _ + 1, h => by cases h; exact rfl
  | _ :: _, _, n + 1, ⟨v, r, e, h, t⟩ => by subst e; exact RpL.drop n t
theorem RpL.set {x : EV} {v : V} (q : Rp K mg Hd eh H x v) : ∀ {xs : List EV} {vs : List V} (n : Nat), RpL K mg Hd eh H xs vs → RpL K mg Hd eh H (xs.set n x) (vs.set n v)
  | [], _, _, h => by cases h; exact rfl
  | _ :: _, _, 0, ⟨v, r, e, h, t⟩ => by subst e; exact ⟨_, _, rfl, q, t⟩
  | _ :: _, _, n + 1, ⟨v, r, e, h, t⟩ => by subst e; exact ⟨_, _, rfl, h, RpL.set q n t⟩
theorem RpL.reverse : ∀ {xs : List EV} {vs : List V}, RpL K mg Hd eh H xs vs → RpL K mg Hd eh H xs.reverse vs.reverse
  | [], _, h => by cases h; exact rfl
  | _ :: _, _, ⟨v, r, e, h, t⟩ => by subst e; simp only [List.reverse_cons]; exact RpL.append (RpL.reverse t) (.one h)
theorem RpL.dropLast {xs : List EV} {vs : List V} (h : RpL K mg Hd eh H xs vs) : RpL K mg Hd eh H xs.dropLast vs.dropLast := by
  rw [List.dropLast_eq_take, List.dropLast_eq_take, h.length]; exact h.take _
theorem RpL.eraseIdx : ∀ {xs : List EV} {vs : List V} (n : Nat), RpL K mg Hd eh H xs vs → RpL K mg Hd eh H (xs.eraseIdx n) (vs.eraseIdx n)
  | [], _, _, h => by cases h; exact rfl
  | _ :: _, _, 0, ⟨v, r, e, h, t⟩ => by subst e; exact t
  | _ :: _, _, n + 1, ⟨v, r, e, h, t⟩ => by subst e; exact ⟨_, _, rfl, h, RpL.eraseIdx n t⟩
theorem RpL.ints : ∀ {ns : List Int} {vs : List V}, RpL K mg Hd eh H (ns.map EV.int) vs → vs = ns.map V.int
  | [], _, h => h
  | _ :: _, _, ⟨v, r, e, h, t⟩ => by subst e; cases h; rw [RpL.ints t]; rfl
theorem RpL.of_ints : ∀ (ns : List Int), RpL K mg Hd eh H (ns.map EV.int) (ns.map V.int)
  | [] => rfl
  | n :: ns => .cons rfl (RpL.of_ints ns)
theorem RpL.bools : ∀ {ns : List Bool} {vs : List V}, RpL K mg Hd eh H (ns.map EV.bl) vs → vs = ns.map V.bl
  | [], _, h => h
  | _ :: _, _, ⟨v, r, e, h, t⟩ => by subst e; cases h; rw [RpL.bools t]; rfl
theorem RpK.length : ∀ {xs : List (Key × EV)} {vs : List (Key × V)}, RpK K mg Hd eh H xs vs → xs.length = vs.length
  | [], _, h => by cases h; rfl
  | (_, _) :: _, _, ⟨_, _, e, _, t⟩ => by subst e; simp [RpK.length t]
theorem RpK.keys : ∀ {xs : List (Key × EV)} {vs : List (Key × V)}, RpK K mg Hd eh H xs vs → vs.map (·.1) = xs.map (·.1)
  | [], _, h => by cases h; rfl
  | (_, _) :: _, _, ⟨_, _, e, _, t⟩ => by subst e; simp [RpK.keys t]
theorem RpK.get' : ∀ {xs : List (Key × EV)} {vs : List (Key × V)} {i : Nat} {k : Key} {v : V}, RpK K mg Hd eh H xs vs → vs[i]? = some (k, v) → ∃ x, xs[i]? = some (k, x) ∧ Rp K mg Hd eh H x v
  | [], _, _, _, _, h, e => by cases h; simp at e
  | (_, x) :: _, _, 0, _, _, ⟨v, r, e, h, t⟩, z => by
    subst e; simp at z; obtain ⟨rfl, rfl⟩ := z; exact ⟨x, rfl, h⟩
  | (_, _) :: _, _, i + 1, _, _, ⟨v, r, e, h, t⟩, z => by subst e; simpa using RpK.get' t (by simpa using z)
theorem RpL.isEmpty {xs : List EV} {vs : List V} (h : RpL K mg Hd eh H xs vs) : vs.isEmpty = xs.isEmpty := by
  have := h.length; cases xs <;> cases vs <;> first | rfl | simp at this
theorem RpK.isEmpty {xs : List (Key × EV)} {vs : List (Key × V)} (h : RpK K mg Hd eh H xs vs) : vs.isEmpty = xs.isEmpty := by
  have := h.length; cases xs <;> cases vs <;> first | rfl | simp at this
theorem RpF.keys : ∀ {xs : List (Str × EV)} {vs : List (Str × V)}, RpF K mg Hd eh H xs vs → vs.map (·.1) = xs.map (·.1)
  | [], _, h => by cases h; rfl
  | (_, _) :: _, _, ⟨_, _, e, _, t⟩ => by subst e; simp [RpF.keys t]
theorem RpF.length {xs : List (Str × EV)} {vs : List (Str × V)} (h : RpF K mg Hd eh H xs vs) : xs.length = vs.length := by
  have := congrArg List.length h.keys; simpa using this.symm
theorem RpF.lookup {f : Str} : ∀ {xs : List (Str × EV)} {vs : List (Str × V)} {x : EV}, RpF K mg Hd eh H xs vs → xs.lookup f = some x → ∃ v, vs.lookup f = some v ∧ Rp K mg Hd eh H x v
  | [], _, _, _, e => by simp at e
  | (k, _) :: _, _, x, ⟨v, r, e, h, t⟩, z => by
    subst e
    cases hk : f == k with
    | true => simp only [List.lookup_cons, hk] at z ⊢; cases z; exact ⟨v, rfl, h⟩
    | false => simp only [List.lookup_cons, hk] at z ⊢; exact RpF.lookup t z
end
end VM

/-! VM2: readings U, UT, UA, US of shallow terms; names, constants, operators, tests, blocks. -/
namespace VM
open PySem PySem.Spec PyProof.Rows L2

/-! ### shallow terms -/
abbrev XC := Str → EV → Eh → Prop
abbrev KE := EV → Eh → Prop
abbrev ME := XC → Es → Eh → KE → Prop
abbrev MT := XC → Es → Eh → (Bool → Eh → Prop) → Prop
abbrev MA := XC → Es → Eh → (List EV → Eh → Prop) → Prop
structure Dn where
  nx : Es → Eh → Prop
  rt : KE
  bk : Es → Eh → Prop := fun _ _ => False
  ct : Es → Eh → Prop := fun _ _ => False
abbrev MS := XC → Dn → Es → Eh → Prop
abbrev EO2 := EV → EV → Eh → KE → Prop
abbrev EO1 := EV → Eh → KE → Prop
abbrev EOL := List EV → Eh → KE → Prop

section
variable (K : PySem.W.Frag) (mg : MW) (E : XK)
/-- what an exception's continuation leads to -/
def XOk (Hd : Addr → Prop) (eh : Eh) (H : Hp) (xc : XC) : Prop := ∀ eh' H' C c d x v, Step eh H eh' H' → Rh K mg Hd eh' H' → mg C = some (.ref c) → H' d = some (.xd [("value", v)]) → Rp K mg Hd eh' H' x v → xc C x eh' → E (.ref c) (some d) H'
def U (m : ME) : TE := fun σ H Q => ∃ Hd es eh xc q, Rl K mg Hd eh H es σ ∧ XOk K mg E Hd eh H xc ∧ m xc es eh q ∧
  ∀ eh' H' x v, Step eh H eh' H' → Rh K mg Hd eh' H' → Rp K mg Hd eh' H' x v → q x eh' → Q v H'
def UT (m : MT) : TT := fun σ H Q => ∃ Hd es eh xc q, Rl K mg Hd eh H es σ ∧ XOk K mg E Hd eh H xc ∧ m xc es eh q ∧
  ∀ eh' H' b, Step eh H eh' H' → Rh K mg Hd eh' H' → q b eh' → Q b H'
def UA (m : MA) : TA := fun σ H Q => ∃ Hd es eh xc q, Rl K mg Hd eh H es σ ∧ XOk K mg E Hd eh H xc ∧ m xc es eh q ∧
  ∀ eh' H' xs vs, Step eh H eh' H' → Rh K mg Hd eh' H' → RpL K mg Hd eh' H' xs vs → q xs eh' → Q vs H'
def US (m : MS) : TS := fun D σ H => ∃ Hd es eh xc d, Rl K mg Hd eh H es σ ∧ XOk K mg E Hd eh H xc ∧ m xc d es eh ∧
  (∀ es' eh' σ' H', Step eh H eh' H' → Rl K mg Hd eh' H' es' σ' → d.nx es' eh' → D.nx σ' H') ∧
  (∀ eh' H' x v, Step eh H eh' H' → Rh K mg Hd eh' H' → Rp K mg Hd eh' H' x v → d.rt x eh' → D.rt v H') ∧
  (∀ es' eh' σ' H', Step eh H eh' H' → Rl K mg Hd eh' H' es' σ' → d.bk es' eh' → D.bk σ' H') ∧
  (∀ es' eh' σ' H', Step eh H eh' H' → Rl K mg Hd eh' H' es' σ' → d.ct es' eh' → D.ct σ' H')
def U1 (o : EO1) : V → Hp → VK → Prop := fun v H Q => ∃ Hd eh x q, Rh K mg Hd eh H ∧ Rp K mg Hd eh H x v ∧ o x eh q ∧
  ∀ eh' H' z w, Step eh H eh' H' → Rh K mg Hd eh' H' → Rp K mg Hd eh' H' z w → q z eh' → Q w H'
def U2 (o : EO2) : R2 := fun v u H Q => ∃ Hd eh x y q, Rh K mg Hd eh H ∧ Rp K mg Hd eh H x v ∧ Rp K mg Hd eh H y u ∧ o x y eh q ∧
  ∀ eh' H' z w, Step eh H eh' H' → Rh K mg Hd eh' H' → Rp K mg Hd eh' H' z w → q z eh' → Q w H'
def UL (o : EOL) : List V → Hp → VK → Prop := fun vs H Q => ∃ Hd eh xs q, Rh K mg Hd eh H ∧ RpL K mg Hd eh H xs vs ∧ o xs eh q ∧
  ∀ eh' H' z w, Step eh H eh' H' → Rh K mg Hd eh' H' → Rp K mg Hd eh' H' z w → q z eh' → Q w H'
def UM (o : EV → EOL) : V → List V → Hp → VK → Prop := fun v vs H Q => ∃ Hd eh x xs q, Rh K mg Hd eh H ∧ Rp K mg Hd eh H x v ∧ RpL K mg Hd eh H xs vs ∧ o x xs eh q ∧
  ∀ eh' H' z w, Step eh H eh' H' → Rh K mg Hd eh' H' → Rp K mg Hd eh' H' z w → q z eh' → Q w H'
end
theorem Rl.step {K mg Hd} {eh eh' : Eh} {H H' : Hp} {es : Es} {σ : L2.St} (R : Rl K mg Hd eh H es σ) (s : Step eh H eh' H') (R' : Rh K mg Hd eh' H') : Rl K mg Hd eh' H' es σ :=
  ⟨R.len, fun i x e => let ⟨v, a, b⟩ := R.loc i x e; ⟨v, a, b.step s⟩, R'⟩
theorem XOk.step {K mg} {E : XK} {Hd : Addr → Prop} {eh eh' : Eh} {H H' : Hp} {xc : XC} (x : XOk K mg E Hd eh H xc) (s : Step eh H eh' H') : XOk K mg E Hd eh' H' xc :=
  fun eh2 H2 C c d x' v s2 => x eh2 H2 C c d x' v (s.trans s2)

/-! ### weakening -/
theorem PE.imp {X : Cx} {e : Expr} {t t' : TE} (h : PE X e t) (i : ∀ σ H Q, t' σ H Q → t σ H Q) : PE X e t' := ⟨fun pins s σ H Q I w => h.run pins s σ H Q I (i σ H Q w)⟩
theorem PT.imp {X : Cx} {e : Expr} {t t' : TT} (h : PT X e t) (i : ∀ σ H Q, t' σ H Q → t σ H Q) : PT X e t' := ⟨fun pins s σ H Q I w => h.run pins s σ H Q I (i σ H Q w)⟩
theorem PW.imp {X : Cx} {e : Expr} {t t' : TT} (h : PW X e t) (i : ∀ σ H Q, t' σ H Q → t σ H Q) : PW X e t' := ⟨fun wh pins s σ H Q I w => h.run wh pins s σ H Q I (i σ H Q w)⟩
theorem PA.imp {X : Cx} {e : List Expr} {t t' : TA} (h : PA X e t) (i : ∀ σ H Q, t' σ H Q → t σ H Q) : PA X e t' := ⟨fun pos pins s σ H Q I w => h.run pos pins s σ H Q I (i σ H Q w)⟩
theorem PS.imp {X : Cx} {e : Stmt} {t t' : TS} (h : PS X e t) (i : ∀ D σ H, t' D σ H → t D σ H) : PS X e t' := ⟨fun pins s σ H D I w => h.run pins s σ H D I (i D σ H w)⟩
theorem PSs.imp {X : Cx} {e : List Stmt} {t t' : TS} (h : PSs X e t) (i : ∀ D σ H, t' D σ H → t D σ H) : PSs X e t' := ⟨fun pins s σ H D I w => h.run pins s σ H D I (i D σ H w)⟩
theorem OpR.imp {X : Cx} {f} {t t' : R2} (h : OpR X f t) (i : ∀ x y H Q, t' x y H Q → t x y H Q) : OpR X f t' := fun pins s σ H x y v u Q I r1 r2 w => h pins s σ H x y v u Q I r1 r2 (i x y H Q w)
theorem CallR.imp {X : Cx} {f} {t t' : List V → Hp → VK → Prop} (h : CallR X f t) (i : ∀ x H Q, t' x H Q → t x H Q) : CallR X f t' := fun pins s σ H x v Q I r1 w => h pins s σ H x v Q I r1 (i x H Q w)

/-! ### terms -/
def mC (x : EV) : ME := fun _ _ eh q => q x eh
def mVar (i : Nat) : ME := fun _ es eh q => match es[i]? with | some (some x) => q x eh | _ => False
def mOp (o : EO2) (a b : ME) : ME := fun xc es eh q => a xc es eh fun x eh1 => b xc es eh1 fun y eh2 => o x y eh2 q
def mUn (o : EO1) (a : ME) : ME := fun xc es eh q => a xc es eh fun x eh1 => o x eh1 q
def mChain (o o' : EO2) (a b c : ME) : ME := fun xc es eh q => a xc es eh fun x eh1 => b xc es eh1 fun y eh2 => o x y eh2 fun z eh3 => match z with
  | .bl true => c xc es eh3 fun w eh4 => o' y w eh4 q
  | .bl false => q (.bl false) eh3
  | _ => False
def mIf (t : MT) (a b : ME) : ME := fun xc es eh q => t xc es eh fun c eh1 => match c with | true => a xc es eh1 q | false => b xc es eh1 q
def aNil : MA := fun _ _ eh q => q [] eh
def aCons (a : ME) (r : MA) : MA := fun xc es eh q => a xc es eh fun x eh1 => r xc es eh1 fun xs eh2 => q (x :: xs) eh2
def mTup (t : MA) : ME := fun xc es eh q => t xc es eh fun xs eh1 => xs.length ≤ sizeLine ∧ q (.tup xs) eh1
def mLst (t : MA) : ME := fun xc es eh q => t xc es eh fun xs eh1 => xs.length ≤ sizeLine ∧ q (.lst xs) eh1
def mLstR (t : MA) : ME := fun xc es eh q => t xc es eh fun xs eh1 => xs.length ≤ sizeLine ∧ ∀ p, eh1 p = none → q (.ref p) (eupd eh1 p (some (.lst xs)))
/-- a value as a test: a bool -/
def tVal (m : ME) : MT := fun xc es eh q => m xc es eh fun x eh1 => match x with | .bl b => q b eh1 | _ => False
def truE (eh : Eh) : EV → Option Bool
  | .non => some false
  | .bl b => some b
  | .int i => some (i != 0)
  | .str x => if x.length ≤ sizeLine then some ((x.length : Int) != 0) else none
  | .lst xs => some (!xs.isEmpty)
  | .tup xs => some (!xs.isEmpty)
  | .ref a => match eh a with | some (.lst xs) => some (!xs.isEmpty) | some (.dct xs) => some (!xs.isEmpty) | _ => none
  | _ => none
def tTru (m : ME) : MT := fun xc es eh q => m xc es eh fun x eh1 => match truE eh1 x with | some b => q b eh1 | none => False
def tAnd (t u : MT) : MT := fun xc es eh q => t xc es eh fun c eh1 => match c with | true => u xc es eh1 q | false => q false eh1
def tOr (t u : MT) : MT := fun xc es eh q => t xc es eh fun c eh1 => match c with | true => q true eh1 | false => u xc es eh1 q
def tNot (t : MT) : MT := fun xc es eh q => t xc es eh fun c eh1 => q (!c) eh1
def mAnd (a b : ME) : ME := fun xc es eh q => a xc es eh fun x eh1 => match x with | .bl true => b xc es eh1 q | .bl false => q (.bl false) eh1 | _ => False
def mOr (a b : ME) : ME := fun xc es eh q => a xc es eh fun x eh1 => match x with | .bl true => q (.bl true) eh1 | .bl false => b xc es eh1 q | _ => False
def mNot (a : ME) : ME := fun xc es eh q => a xc es eh fun x eh1 => match x with | .bl c => q (.bl (!c)) eh1 | _ => False

section
variable {X : Cx} {E : XK} {a b c e : Expr} {ma mb mc : ME} {mt mu : MT} {pos : Pos}

/-! ### names and constants -/
theorem fin {σ : L2.St} {H : Hp} {Q : VK} {es : Es} {eh : Eh} {q : KE} {x : EV} {v : V} (R : Rh X.K X.mw Hd eh H) (r : Rp X.K X.mw Hd eh H x v) (h : q x eh)
    (k : ∀ eh' H' x v, Step eh H eh' H' → Rh X.K X.mw Hd eh' H' → Rp X.K X.mw Hd eh' H' x v → q x eh' → Q v H') : Q v H := k eh H x v .refl R r h
theorem re_c {x : EV} {v : V} (h : PE X e (tC v)) (r : ∀ Hd eh H, Rp X.K X.mw Hd eh H x v) : PE X e (U X.K X.mw E (mC x)) :=
  PE.imp h fun σ H Q ⟨Hd, es, eh, xc, q, R, xo, m, k⟩ => k eh H x v .refl R.obj (r _ _ _) m
theorem re_int {i : Int} {j} : PE X (.Constant (.int i) j pos) (U X.K X.mw E (mC (.int i))) := re_c pe_int fun _ _ _ => rfl
theorem re_bl {b : Bool} {j} : PE X (.Constant (.bool b) j pos) (U X.K X.mw E (mC (.bl b))) := re_c pe_bl fun _ _ _ => rfl
theorem re_non {j} : PE X (.Constant .none j pos) (U X.K X.mw E (mC .non)) := re_c pe_non fun _ _ _ => rfl
theorem re_str {x : Str} {j} : PE X (.Constant (.str x) j pos) (U X.K X.mw E (mC (.str x))) := re_c pe_str fun _ _ _ => rfl
theorem re_var (i : Nat) {x : Str} (hN : X.N[i]? = some x := by rfl) (hv : Vis X.env.scope x := by first | exact Or.inl rfl | exact Or.inr (Or.inl rfl) | exact Or.inr (Or.inr rfl)) (hd : (x == ("__debug__" : Str)) = false := by decide)
    (hcd : (x == ("__classdict__" : Str)) = false := by decide) : PE X (.Name x pos) (U X.K X.mw E (mVar i)) :=
  PE.imp (pe_var hN hv hd hcd) fun σ H Q ⟨Hd, es, eh, xc, q, R, xo, m, k⟩ => by
    unfold mVar at m
    cases h : es[i]? with
    | none => rw [h] at m; exact m.elim
    | some o =>
      cases o with
      | none => rw [h] at m; exact m.elim
      | some x =>
        rw [h] at m
        obtain ⟨v, hv, r⟩ := R.loc i x h
        exact ⟨v, hv, k eh H x v .refl R.obj r m⟩
/-- a constant of the module -/
theorem re_glo {x : Str} {y : EV} {v : V} {u : Value} (hg : Gl X x) (hm : X.mg x = some u) (r : RelV v u) (r' : ∀ Hd eh H, Rp X.K X.mw Hd eh H y v) (hd : (x == ("__debug__" : Str)) = false := by decide) : PE X (.Name x pos) (U X.K X.mw E (mC y)) :=
  re_c (pe_glob hg hm r hd) r'

/-! ### operators -/
theorem op_lift {f : Value → Value → Sem Value} {o : EO2} (ho : OpR X f (U2 X.K X.mw o)) (ha : PE X a (U X.K X.mw E ma)) (hb : PE X b (U X.K X.mw E mb)) :
    ∀ σ H Q, U X.K X.mw E (mOp o ma mb) σ H Q → tOp (U2 X.K X.mw o) (U X.K X.mw E ma) (U X.K X.mw E mb) σ H Q := fun σ H Q ⟨Hd, es, eh, xc, q, R, xo, m, k⟩ =>
  ⟨Hd, es, eh, xc, _, R, xo, m, fun eh1 H1 x v s1 R1 r1 m1 => ⟨Hd, es, eh1, xc, _, R.step s1 R1, xo.step s1, m1, fun eh2 H2 y u s2 R2 r2 m2 =>
    ⟨Hd, eh2, x, y, q, R2, r1.step s2, r2, m2, fun eh3 H3 z w s3 R3 r3 h3 => k eh3 H3 z w (s1.trans (s2.trans s3)) R3 r3 h3⟩⟩⟩
theorem re_op {op : Operator} {o : EO2} (ho : OpR X (binaryOp op) (U2 X.K X.mw o)) (ha : PE X a (U X.K X.mw E ma)) (hb : PE X b (U X.K X.mw E mb)) : PE X (.BinOp a op b pos) (U X.K X.mw E (mOp o ma mb)) :=
  PE.imp (pe_op ho ha hb) (op_lift ho ha hb)
theorem re_cmp {op : CmpOp} {o : EO2} (ho : OpR X (compareOp op) (U2 X.K X.mw o)) (ha : PE X a (U X.K X.mw E ma)) (hb : PE X b (U X.K X.mw E mb)) (hm : behindInMarks op b = false) : PE X (.Compare a [op] [b] pos) (U X.K X.mw E (mOp o ma mb)) :=
  PE.imp (pe_cmpR ho ha hb hm) (op_lift ho ha hb)
theorem re_sub {o : EO2} (ho : IxR X (U2 X.K X.mw o)) (ha : PE X a (U X.K X.mw E ma)) (hb : PE X b (U X.K X.mw E mb)) (hs : PlainIx b) : PE X (.Subscript a b pos) (U X.K X.mw E (mOp o ma mb)) :=
  PE.imp (pe_ix ho ha hb hs) fun σ H Q ⟨Hd, es, eh, xc, q, R, xo, m, k⟩ =>
  ⟨Hd, es, eh, xc, _, R, xo, m, fun eh1 H1 x v s1 R1 r1 m1 => ⟨Hd, es, eh1, xc, _, R.step s1 R1, xo.step s1, m1, fun eh2 H2 y u s2 R2 r2 m2 =>
    ⟨Hd, eh2, x, y, q, R2, r1.step s2, r2, m2, fun eh3 H3 z w s3 R3 r3 h3 => k eh3 H3 z w (s1.trans (s2.trans s3)) R3 r3 h3⟩⟩⟩
theorem re_un {op : UnaryOp} {o : EO1} (ho : UnR X (unaryOp op) (U1 X.K X.mw o)) (ha : PE X a (U X.K X.mw E ma)) : PE X (.UnaryOp op a pos) (U X.K X.mw E (mUn o ma)) :=
  PE.imp (pe_un ho ha) fun σ H Q ⟨Hd, es, eh, xc, q, R, xo, m, k⟩ => ⟨Hd, es, eh, xc, _, R, xo, m, fun eh1 H1 x v s1 R1 r1 m1 =>
    ⟨Hd, eh1, x, q, R1, r1, m1, fun eh3 H3 z w s3 R3 r3 h3 => k eh3 H3 z w (s1.trans s3) R3 r3 h3⟩⟩
theorem chain_lift {o o' : EO2} : ∀ σ H Q, U X.K X.mw E (mChain o o' ma mb mc) σ H Q → tChain (U2 X.K X.mw o) (U2 X.K X.mw o') (U X.K X.mw E ma) (U X.K X.mw E mb) (U X.K X.mw E mc) σ H Q := fun σ H Q ⟨Hd, es, eh, xc, q, R, xo, m, k⟩ =>
  ⟨Hd, es, eh, xc, _, R, xo, m, fun eh1 H1 x v s1 R1 r1 m1 => ⟨Hd, es, eh1, xc, _, R.step s1 R1, xo.step s1, m1, fun eh2 H2 y u s2 R2 r2 m2 =>
    ⟨Hd, eh2, x, y, _, R2, r1.step s2, r2, m2, fun eh3 H3 z w s3 R3 r3 h3 => by
      cases z with
      | bl b =>
        cases r3
        refine ⟨b, rfl, ?_⟩
        cases b with
        | true => exact iteT ⟨Hd, es, eh3, xc, _, ((R.step s1 R1).step s2 R2).step s3 R3, ((xo.step s1).step s2).step s3, h3, fun eh4 H4 t w' s4 R4 r4 h4 =>
            ⟨Hd, eh4, y, t, q, R4, (r2.step s3).step s4, r4, h4, fun eh5 H5 z5 w5 s5 R5 r5 h5 => k eh5 H5 z5 w5 (s1.trans (s2.trans (s3.trans (s4.trans s5)))) R5 r5 h5⟩⟩
        | false => exact iteF (k eh3 H3 (.bl false) (.bl false) (s1.trans (s2.trans s3)) R3 rfl h3)
      | _ => exact h3.elim⟩⟩⟩
theorem re_chain {op op' : CmpOp} {o o' : EO2} (ho : OpR X (compareOp op) (U2 X.K X.mw o)) (ho' : OpR X (compareOp op') (U2 X.K X.mw o')) (ha : PE X a (U X.K X.mw E ma)) (hb : PE X b (U X.K X.mw E mb)) (hc : PE X c (U X.K X.mw E mc))
    (hm : lastMarks [op, op'] [b, c] = false := by with_unfolding_all rfl) : PE X (.Compare a [op, op'] [b, c] pos) (U X.K X.mw E (mChain o o' ma mb mc)) :=
  PE.imp (pe_chain ho ho' ha hb hc hm) chain_lift

/-! ### tests -/
theorem val_lift : ∀ σ H Q, UT X.K X.mw E (tVal ma) σ H Q → tTest (U X.K X.mw E ma) σ H Q := fun σ H Q ⟨Hd, es, eh, xc, q, R, xo, m, k⟩ =>
  ⟨Hd, es, eh, xc, _, R, xo, m, fun eh1 H1 x v s1 R1 r1 m1 => by
    cases x with
    | bl b => cases r1; exact ⟨b, rfl, k eh1 H1 b s1 R1 m1⟩
    | _ => exact m1.elim⟩
theorem rt_cmp {op : CmpOp} {o : EO2} (ho : OpR X (compareOp op) (U2 X.K X.mw o)) (ha : PE X a (U X.K X.mw E ma)) (hb : PE X b (U X.K X.mw E mb)) (hm : behindInMarks op b = false) : PT X (.Compare a [op] [b] pos) (UT X.K X.mw E (tVal (mOp o ma mb))) :=
  PT.imp (pt_cmpR ho ha hb hm) fun σ H Q h => by
    obtain ⟨Hd, es, eh, xc, q, z⟩ := val_lift σ H Q h
    exact op_lift ho ha hb σ H _ ⟨Hd, es, eh, xc, q, z⟩
theorem rt_chain {op op' : CmpOp} {o o' : EO2} (ho : OpR X (compareOp op) (U2 X.K X.mw o)) (ho' : OpR X (compareOp op') (U2 X.K X.mw o')) (ha : PE X a (U X.K X.mw E ma)) (hb : PE X b (U X.K X.mw E mb)) (hc : PE X c (U X.K X.mw E mc))
    (hm : lastMarks [op, op'] [b, c] = false := by with_unfolding_all rfl) : PT X (.Compare a [op, op'] [b, c] pos) (UT X.K X.mw E (tVal (mChain o o' ma mb mc))) :=
  PT.imp (pt_chain ho ho' ha hb hc hm) fun σ H Q h => chain_lift σ H _ (val_lift σ H Q h)
theorem tru_of {eh : Eh} {H : Hp} {x : EV} {v : V} {k : Bool} (R : Rh X.K X.mw Hd eh H) (r : Rp X.K X.mw Hd eh H x v) (e : truE eh x = some k) : TruV X.K v H k := by
  cases x with
  | non => cases r; cases e; exact rfl
  | bl b => cases r; cases e; exact rfl
  | int i => cases r; cases e; exact rfl
  | str x => cases r; simp only [truE] at e; split at e
             · rename_i z; cases e; exact ⟨z, rfl⟩
             · cases e
  | tup xs =>
    obtain ⟨p, vs, rfl, h, t⟩ := r
    cases e
    exact .inr (.inl ⟨vs, h, by rw [t.isEmpty]⟩)
  | lst xs =>
    obtain ⟨p, vs, rfl, h, _, t⟩ := r
    cases e
    exact .inl ⟨vs, .inl (.inl h), by rw [t.isEmpty]⟩
  | ref p =>
    cases r
    simp only [truE] at e
    cases h : eh p with
    | none => rw [h] at e; cases e
    | some o =>
      have z := R.ob p o h
      rw [h] at e
      cases o with
      | lst xs =>
        obtain ⟨vs, h, t⟩ := z
        cases e
        exact .inl ⟨vs, .inl (.inl h), by rw [t.isEmpty]⟩
      | dct xs =>
        obtain ⟨vs, h, t⟩ := z
        cases e
        exact .inr (.inr ⟨vs, h, by rw [t.isEmpty]⟩)
      | ins C fs => cases e
      | dN xs => cases e
  | _ => cases e
theorem rt_tru (ha : PE X a (U X.K X.mw E ma)) (he : ∀ whole, isTrue a X.env whole = (do let v ← whole; standAt a.pos; holding [v] (truthy v)) := by intro _; rfl) : PT X a (UT X.K X.mw E (tTru ma)) :=
  PT.imp (pt_truth ha he) fun σ H Q ⟨Hd, es, eh, xc, q, R, xo, m, k⟩ => ⟨Hd, es, eh, xc, _, R, xo, m, fun eh1 H1 x v s1 R1 r1 m1 => by
    cases h : truE eh1 x with
    | none => simp only [h] at m1
    | some b => simp only [h] at m1; exact ⟨b, tru_of R1 r1 h, k eh1 H1 b s1 R1 m1⟩⟩
theorem rw_and1 (h : PT X a (UT X.K X.mw E mt)) : PW X (.BoolOp .And [a] pos) (UT X.K X.mw E mt) := pw_and1 h
theorem rw_or1 (h : PT X a (UT X.K X.mw E mt)) : PW X (.BoolOp .Or [a] pos) (UT X.K X.mw E mt) := pw_or1 h
theorem rw_and {rest : List Expr} (h : PT X a (UT X.K X.mw E mt)) (h' : PW X (.BoolOp .And (b :: rest) pos) (UT X.K X.mw E mu)) : PW X (.BoolOp .And (a :: b :: rest) pos) (UT X.K X.mw E (tAnd mt mu)) :=
  PW.imp (pw_and h h') fun σ H Q ⟨Hd, es, eh, xc, q, R, xo, m, k⟩ => ⟨Hd, es, eh, xc, _, R, xo, m, fun eh1 H1 c s1 R1 m1 => by
    cases c with
    | true => exact iteT ⟨Hd, es, eh1, xc, q, R.step s1 R1, xo.step s1, m1, fun eh2 H2 b s2 R2 m2 => k eh2 H2 b (s1.trans s2) R2 m2⟩
    | false => exact iteF (k eh1 H1 false s1 R1 m1)⟩
theorem rw_or {rest : List Expr} (h : PT X a (UT X.K X.mw E mt)) (h' : PW X (.BoolOp .Or (b :: rest) pos) (UT X.K X.mw E mu)) : PW X (.BoolOp .Or (a :: b :: rest) pos) (UT X.K X.mw E (tOr mt mu)) :=
  PW.imp (pw_or h h') fun σ H Q ⟨Hd, es, eh, xc, q, R, xo, m, k⟩ => ⟨Hd, es, eh, xc, _, R, xo, m, fun eh1 H1 c s1 R1 m1 => by
    cases c with
    | false => exact iteF ⟨Hd, es, eh1, xc, q, R.step s1 R1, xo.step s1, m1, fun eh2 H2 b s2 R2 m2 => k eh2 H2 b (s1.trans s2) R2 m2⟩
    | true => exact iteT (k eh1 H1 true s1 R1 m1)⟩
theorem rt_not (h : PT X a (UT X.K X.mw E mt)) : PT X (.UnaryOp .Not a pos) (UT X.K X.mw E (tNot mt)) :=
  PT.imp (pt_not h) fun σ H Q ⟨Hd, es, eh, xc, q, R, xo, m, k⟩ => ⟨Hd, es, eh, xc, _, R, xo, m, fun eh1 H1 c s1 R1 m1 => k eh1 H1 (!c) s1 R1 m1⟩
theorem re_ifE {c : Expr} (hc : PT X c (UT X.K X.mw E mt)) (ha : PE X a (U X.K X.mw E ma)) (hb : PE X b (U X.K X.mw E mb)) : PE X (.IfExp c a b pos) (U X.K X.mw E (mIf mt ma mb)) :=
  PE.imp (pe_ifExp hc ha hb) fun σ H Q ⟨Hd, es, eh, xc, q, R, xo, m, k⟩ => ⟨Hd, es, eh, xc, _, R, xo, m, fun eh1 H1 c s1 R1 m1 => by
    cases c with
    | true => exact iteT ⟨Hd, es, eh1, xc, q, R.step s1 R1, xo.step s1, m1, fun eh2 H2 x v s2 => k eh2 H2 x v (s1.trans s2)⟩
    | false => exact iteF ⟨Hd, es, eh1, xc, q, R.step s1 R1, xo.step s1, m1, fun eh2 H2 x v s2 => k eh2 H2 x v (s1.trans s2)⟩⟩
/-- and, or, not as values of bools -/
theorem re_one {op} (h : PE X a (U X.K X.mw E ma)) : PE X (.BoolOp op [a] pos) (U X.K X.mw E ma) := pe_one h
theorem re_and {rest : List Expr} (ha : PE X a (U X.K X.mw E ma)) (hb : PE X (.BoolOp .And (b :: rest) pos) (U X.K X.mw E mb)) : PE X (.BoolOp .And (a :: b :: rest) pos) (U X.K X.mw E (mAnd ma mb)) :=
  PE.imp (pe_and ha hb) fun σ H Q ⟨Hd, es, eh, xc, q, R, xo, m, k⟩ => ⟨Hd, es, eh, xc, _, R, xo, m, fun eh1 H1 x v s1 R1 r1 m1 => by
    cases x with
    | bl c =>
      cases r1
      refine ⟨c, rfl, ?_⟩
      cases c with
      | true => exact iteT ⟨Hd, es, eh1, xc, q, R.step s1 R1, xo.step s1, m1, fun eh2 H2 x v s2 => k eh2 H2 x v (s1.trans s2)⟩
      | false => exact iteF (k eh1 H1 (.bl false) (.bl false) s1 R1 rfl m1)
    | _ => exact m1.elim⟩
theorem re_or {rest : List Expr} (ha : PE X a (U X.K X.mw E ma)) (hb : PE X (.BoolOp .Or (b :: rest) pos) (U X.K X.mw E mb)) : PE X (.BoolOp .Or (a :: b :: rest) pos) (U X.K X.mw E (mOr ma mb)) :=
  PE.imp (pe_or ha hb) fun σ H Q ⟨Hd, es, eh, xc, q, R, xo, m, k⟩ => ⟨Hd, es, eh, xc, _, R, xo, m, fun eh1 H1 x v s1 R1 r1 m1 => by
    cases x with
    | bl c =>
      cases r1
      refine ⟨c, rfl, ?_⟩
      cases c with
      | false => exact iteF ⟨Hd, es, eh1, xc, q, R.step s1 R1, xo.step s1, m1, fun eh2 H2 x v s2 => k eh2 H2 x v (s1.trans s2)⟩
      | true => exact iteT (k eh1 H1 (.bl true) (.bl true) s1 R1 rfl m1)
    | _ => exact m1.elim⟩
theorem re_not (ha : PE X a (U X.K X.mw E ma)) : PE X (.UnaryOp .Not a pos) (U X.K X.mw E (mNot ma)) :=
  PE.imp (pe_not ha) fun σ H Q ⟨Hd, es, eh, xc, q, R, xo, m, k⟩ => ⟨Hd, es, eh, xc, _, R, xo, m, fun eh1 H1 x v s1 R1 r1 m1 => by
    cases x with
    | bl c => cases r1; exact ⟨c, rfl, k eh1 H1 (.bl (!c)) (.bl (!c)) s1 R1 rfl m1⟩
    | _ => exact m1.elim⟩

/-! ### argument lists, displays -/
theorem ra_nil : PA X [] (UA X.K X.mw E aNil) := PA.imp pa_nil fun σ H Q ⟨Hd, es, eh, xc, q, R, xo, m, k⟩ => k eh H [] [] .refl R.obj rfl m
theorem ra_cons {es : List Expr} {mr : MA} (ha : PE X e (U X.K X.mw E ma)) (hr : PA X es (UA X.K X.mw E mr)) (hs : starEach (e :: es) X.env = (false, eval e X.env) :: starEach es X.env := by rfl) : PA X (e :: es) (UA X.K X.mw E (aCons ma mr)) :=
  PA.imp (pa_cons ha hr hs) fun σ H Q ⟨Hd, es, eh, xc, q, R, xo, m, k⟩ => ⟨Hd, es, eh, xc, _, R, xo, m, fun eh1 H1 x v s1 R1 r1 m1 =>
    ⟨Hd, es, eh1, xc, _, R.step s1 R1, xo.step s1, m1, fun eh2 H2 xs vs s2 R2 r2 m2 => k eh2 H2 _ _ (s1.trans s2) R2 (.cons (r1.step s2) r2) m2⟩⟩
theorem Rh.fresh {K mg Hd} {eh : Eh} {H : Hp} (R : Rh K mg Hd eh H) {p : Addr} (h : H p = none) : eh p = none := by
  cases e : eh p with
  | none => rfl
  | some o =>
    have z := R.ob p o e
    cases o with
    | lst xs => obtain ⟨_, q, _⟩ := z; rw [h] at q; cases q
    | dct xs => obtain ⟨_, q, _⟩ := z; rw [h] at q; cases q
    | ins C fs => obtain ⟨_, _, _, _, q, _⟩ := z; rw [h] at q; cases q
    | dN xs => obtain ⟨_, _, q, _⟩ := z; rw [h] at q; cases q
theorem Step.new {eh : Eh} {H : Hp} {p : Addr} {o : HO} {eo : Option EO} (h : H p = none) : Step eh H (eupd eh p eo) (upd H p o) :=
  ⟨fun a u hu n _ => ⟨by rw [upd_ne (ne_of_none hu h)]; exact hu, by rw [eupd_ne (ne_of_none hu h)]; exact n⟩, fun a u hu => by rw [upd_ne (ne_of_none hu h)]; exact hu, fun a u w hu => by rw [upd_ne (ne_of_none hu h)]; exact hu⟩
theorem Step.newF {eh : Eh} {H : Hp} {p : Addr} {o : HO} (h : H p = none) : Step eh H eh (upd H p o) :=
  ⟨fun a u hu n _ => ⟨by rw [upd_ne (ne_of_none hu h)]; exact hu, n⟩, fun a u hu => by rw [upd_ne (ne_of_none hu h)]; exact hu, fun a u w hu => by rw [upd_ne (ne_of_none hu h)]; exact hu⟩
theorem RpO.step' {K mg Hd} {eh eh' : Eh} {H H' : Hp} {a : Addr} {o : EO} (s : Step eh H eh' H') (e : H' a = H a) (h : RpO K mg Hd eh H a o) : RpO K mg Hd eh' H' a o := by
  cases o with
  | lst xs => obtain ⟨vs, q, r⟩ := h; exact ⟨vs, e.trans q, r.step s⟩
  | dct xs => obtain ⟨vs, q, r⟩ := h; exact ⟨vs, e.trans q, r.step s⟩
  | ins C fs => obtain ⟨c, dx, us, m, q, r⟩ := h; exact ⟨c, dx, us, m, e.trans q, r.step s⟩
  | dN xs => obtain ⟨ys, us, q, z, hz, ek, k, v, r⟩ := h; exact ⟨ys, us, e.trans q, z, hz, ek, fun x hx => ⟨(k x hx).1.ext fun _ _ w => SqT.step s w, (k x hx).2⟩, v, r.step s⟩
theorem RpO.some {K mg Hd} {eh : Eh} {H : Hp} {a : Addr} {o : EO} (h : RpO K mg Hd eh H a o) : ∃ u, H a = some u ∧ Mut (some u) ∧ (∀ xs, u ≠ .tup xs) ∧ (∀ x y, u ≠ .frz x y) ∧ (∀ ps, u ≠ .tbl ps) ∧ ∀ c q, u ≠ LamX.CodeO c q := by
  cases o with
  | lst xs => obtain ⟨vs, q, r⟩ := h; exact ⟨_, q, trivial, (fun _ z => nomatch z), (fun _ _ z => nomatch z), (fun _ z => nomatch z), fun _ _ z => nomatch z⟩
  | dct xs => obtain ⟨vs, q, r⟩ := h; exact ⟨_, q, trivial, (fun _ z => nomatch z), (fun _ _ z => nomatch z), (fun _ z => nomatch z), fun _ _ z => nomatch z⟩
  | dN xs => obtain ⟨vs, us, q, r⟩ := h; exact ⟨_, q, trivial, (fun _ z => nomatch z), (fun _ _ z => nomatch z), (fun _ z => nomatch z), fun _ _ => dictN_ne⟩
  | ins C fs => obtain ⟨c, dx, us, m, q, r⟩ := h; exact ⟨_, q, trivial, (fun _ z => nomatch z), (fun _ _ z => nomatch z), (fun _ z => nomatch z), fun _ _ z => nomatch z⟩
theorem tabs_new {T : List (Addr × Str)} {H : Hp} {p : Addr} {o : HO} (t : LamX.Tabs T H) (h : H p = none) : LamX.Tabs T (upd H p o) := t.ext fun b u e => by rw [upd_ne (ne_of_none e h)]; exact e
theorem tabs_write {T : List (Addr × Str)} {H : Hp} {p : Addr} {o u : HO} (t : LamX.Tabs T H) (h : H p = some u) (h1 : ∀ ps, u ≠ .tbl ps) (h2 : ∀ c q, u ≠ LamX.CodeO c q) : LamX.Tabs T (upd H p o) := fun q hq => by
  obtain ⟨ps, a, b, c⟩ := t q hq
  refine ⟨ps, by rw [upd_ne fun z => by rw [z, h] at a; exact h1 _ (Option.some.inj a)]; exact a, b, fun pos cv e => ?_⟩
  obtain ⟨c', e1, e2⟩ := c pos cv e
  exact ⟨c', e1, by rw [upd_ne fun z => by rw [z, h] at e2; exact h2 _ _ (Option.some.inj e2)]; exact e2⟩
theorem Rh.notHid {K mg Hd} {eh : Eh} {H : Hp} (R : Rh K mg Hd eh H) {p : Addr} (h : H p = none) : ¬ Hd p := fun z => by
  obtain ⟨⟨o, e⟩, _⟩ := R.hd p z; rw [h] at e; cases e
theorem Rh.newF {K mg Hd} {eh : Eh} {H : Hp} {p : Addr} {o : HO} (R : Rh K mg Hd eh H) (h : H p = none) : Rh K mg Hd eh (upd H p o) := ⟨tabs_new R.tb h, fun a u e => by
  have z := R.ob a u e
  obtain ⟨w, hw, _⟩ := z.some
  exact z.step' (.newF h) (upd_ne (ne_of_none hw h)), fun a z => by
  obtain ⟨⟨w, hw⟩, n⟩ := R.hd a z
  exact ⟨⟨w, by rw [upd_ne (ne_of_none hw h)]; exact hw⟩, n⟩⟩
theorem Rh.new {K mg Hd} {eh : Eh} {H : Hp} {p : Addr} {o : HO} {eo : EO} (R : Rh K mg Hd eh H) (h : H p = none) (n : RpO K mg Hd (eupd eh p (some eo)) (upd H p o) p eo) : Rh K mg Hd (eupd eh p (some eo)) (upd H p o) := ⟨tabs_new R.tb h, fun a u e => by
  by_cases ha : a = p
  · subst ha; rw [eupd_same] at e; cases e; exact n
  · rw [eupd_ne ha] at e
    have z := R.ob a u e
    obtain ⟨w, hw, _⟩ := z.some
    exact z.step' (.new h) (upd_ne ha), fun a z => by
  obtain ⟨⟨w, hw⟩, n⟩ := R.hd a z
  exact ⟨⟨w, by rw [upd_ne (ne_of_none hw h)]; exact hw⟩, by rw [eupd_ne (ne_of_none hw h)]; exact n⟩⟩
theorem Step.write {K mg Hd} {eh : Eh} {H : Hp} {p : Addr} {o : HO} {u : EO} {eo : Option EO} (R : Rh K mg Hd eh H) (h : eh p = some u) : Step eh H (eupd eh p eo) (upd H p o) := by
  obtain ⟨w, hw, mu, nt, nf, _⟩ := (R.ob p u h).some
  have na : ∀ a, eh a = none → a ≠ p := fun a n z => by rw [z, h] at n; cases n
  refine ⟨fun a u hu n _ => ⟨by rw [upd_ne (na a n)]; exact hu, by rw [eupd_ne (na a n)]; exact n⟩, fun a xs hu => ?_, fun a x y hu => ?_⟩
  · rw [upd_ne fun z => ?_]; exact hu
    subst z; rw [hw] at hu; exact nt _ (Option.some.inj hu)
  · rw [upd_ne fun z => ?_]; exact hu
    subst z; rw [hw] at hu; exact nf _ _ (Option.some.inj hu)
theorem Rh.write {K mg Hd} {eh : Eh} {H : Hp} {p : Addr} {o : HO} {u eo : EO} (R : Rh K mg Hd eh H) (h : eh p = some u) (n : RpO K mg Hd (eupd eh p (some eo)) (upd H p o) p eo) : Rh K mg Hd (eupd eh p (some eo)) (upd H p o) := ⟨(by obtain ⟨w, hw, _, _, _, h1, h2⟩ := (R.ob p u h).some; exact tabs_write R.tb hw h1 h2), fun a w e => by
  by_cases ha : a = p
  · subst ha; rw [eupd_same] at e; cases e; exact n
  · rw [eupd_ne ha] at e
    exact (R.ob a w e).step' (.write R h) (upd_ne ha), fun a z => by
  obtain ⟨⟨w, hw⟩, n⟩ := R.hd a z
  have na : a ≠ p := fun e => by rw [e, h] at n; cases n
  exact ⟨⟨w, by rw [upd_ne na]; exact hw⟩, by rw [eupd_ne na]; exact n⟩⟩
theorem re_tup {es : List Expr} {mr : MA} {x1} (h : PA X es (UA X.K X.mw E mr)) : PE X (.Tuple es x1 pos) (U X.K X.mw E (mTup mr)) :=
  PE.imp (pe_tup h) fun σ H Q ⟨Hd, es, eh, xc, q, R, xo, m, k⟩ => ⟨Hd, es, eh, xc, _, R, xo, m, fun eh1 H1 xs vs s1 R1 r1 m1 =>
    ⟨by rw [← r1.length]; exact m1.1, fun p hp => k eh1 _ (.tup xs) (.ref p) (s1.trans (.newF hp)) (R1.newF hp) ⟨p, vs, rfl, .inl (.inl upd_same), r1.step (.newF hp)⟩ m1.2⟩⟩
theorem re_lst {es : List Expr} {mr : MA} (h : PA X es (UA X.K X.mw E mr)) : PE X (.List es pos) (U X.K X.mw E (mLst mr)) :=
  PE.imp (pe_lst h) fun σ H Q ⟨Hd, es, eh, xc, q, R, xo, m, k⟩ => ⟨Hd, es, eh, xc, _, R, xo, m, fun eh1 H1 xs vs s1 R1 r1 m1 =>
    ⟨by rw [← r1.length]; exact m1.1, fun p hp => k eh1 _ (.lst xs) (.ref p) (s1.trans (.newF hp)) (R1.newF hp) ⟨p, vs, rfl, upd_same, ⟨R1.fresh hp, R1.notHid hp⟩, r1.step (.newF hp)⟩ m1.2⟩⟩
theorem re_lstR {es : List Expr} {mr : MA} (h : PA X es (UA X.K X.mw E mr)) : PE X (.List es pos) (U X.K X.mw E (mLstR mr)) :=
  PE.imp (pe_lst h) fun σ H Q ⟨Hd, es, eh, xc, q, R, xo, m, k⟩ => ⟨Hd, es, eh, xc, _, R, xo, m, fun eh1 H1 xs vs s1 R1 r1 m1 =>
    ⟨by rw [← r1.length]; exact m1.1, fun p hp => k _ _ (.ref p) (.ref p) (s1.trans (.new hp)) (R1.new (eo := .lst xs) hp ⟨vs, upd_same, r1.step (.new hp)⟩) rfl (m1.2 p (R1.fresh hp))⟩⟩
end

/-! ### statements -/
def sNext : MS := fun _ d es eh => d.nx es eh
def sSeq (t u : MS) : MS := fun xc d es eh => t xc { d with nx := fun es' eh' => u xc d es' eh' } es eh
def sBreak : MS := fun _ d es eh => d.bk es eh
def sCont : MS := fun _ d es eh => d.ct es eh
def sExpr (m : ME) : MS := fun xc d es eh => m xc es eh fun _ eh1 => d.nx es eh1
def sRet (m : ME) : MS := fun xc d es eh => m xc es eh d.rt
def sRetN : MS := fun _ d _ eh => d.rt .non eh
def sIf (c : MT) (t u : MS) : MS := fun xc d es eh => c xc es eh fun b eh1 => match b with | true => t xc d es eh1 | false => u xc d es eh1
def sNever : MS := fun _ _ _ _ => False
def sSet (i : Nat) (m : ME) : MS := fun xc d es eh => m xc es eh fun x eh1 => d.nx (es.set i (some x)) eh1
section
variable {X : Cx} {E : XK} {e : Expr} {ma : ME} {mt : MT} {pos : Pos} {st : Stmt} {rest : List Stmt} {ms mu : MS}
theorem rs_nil : PSs X [] (US X.K X.mw E sNext) := PSs.imp pss_nil fun D σ H ⟨Hd, es, eh, xc, d, R, xo, m, k1, k2, k3, k4⟩ => k1 es eh σ H .refl R m
theorem rs_one (h : PS X st (US X.K X.mw E ms)) : PSs X [st] (US X.K X.mw E ms) := pss_one h
theorem rs_cons (h1 : PS X st (US X.K X.mw E ms)) (h2 : PSs X rest (US X.K X.mw E mu)) : PSs X (st :: rest) (US X.K X.mw E (sSeq ms mu)) :=
  PSs.imp (pss_cons h1 h2) fun D σ H ⟨Hd, es, eh, xc, d, R, xo, m, k1, k2, k3, k4⟩ => ⟨Hd, es, eh, xc, _, R, xo, m, fun es1 eh1 σ1 H1 s1 R1 m1 =>
    ⟨Hd, es1, eh1, xc, d, R1, xo.step s1, m1, fun es2 eh2 σ2 H2 s2 => k1 es2 eh2 σ2 H2 (s1.trans s2), fun eh2 H2 x v s2 => k2 eh2 H2 x v (s1.trans s2), fun es2 eh2 σ2 H2 s2 => k3 es2 eh2 σ2 H2 (s1.trans s2), fun es2 eh2 σ2 H2 s2 => k4 es2 eh2 σ2 H2 (s1.trans s2)⟩, k2, k3, k4⟩
theorem rs_never : PS X st (US X.K X.mw E sNever) := PS.imp ps_never fun D σ H ⟨Hd, es, eh, xc, d, R, xo, m, k1, k2, k3, k4⟩ => m.elim
theorem rs_expr (he : PE X e (U X.K X.mw E ma)) (hs : swapsWith e none pos.line X.env = pure false := by rfl) : PS X (.Expr e pos) (US X.K X.mw E (sExpr ma)) :=
  PS.imp (ps_expr he hs) fun D σ H ⟨Hd, es, eh, xc, d, R, xo, m, k1, k2, k3, k4⟩ => ⟨Hd, es, eh, xc, _, R, xo, m, fun eh1 H1 x v s1 R1 r1 m1 => k1 es eh1 σ H1 s1 (R.step s1 R1) m1⟩
theorem rs_ret (he : PE X e (U X.K X.mw E ma)) : PS X (.Return (some e) pos) (US X.K X.mw E (sRet ma)) :=
  PS.imp (ps_ret he) fun D σ H ⟨Hd, es, eh, xc, d, R, xo, m, k1, k2, k3, k4⟩ => ⟨Hd, es, eh, xc, _, R, xo, m, k2⟩
theorem rs_if {c : Expr} {a b : List Stmt} (hc : PT X c (UT X.K X.mw E mt)) (ha : PSs X a (US X.K X.mw E ms)) (hb : PSs X b (US X.K X.mw E mu)) : PS X (.If c a b pos) (US X.K X.mw E (sIf mt ms mu)) :=
  PS.imp (ps_if hc ha hb) fun D σ H ⟨Hd, es, eh, xc, d, R, xo, m, k1, k2, k3, k4⟩ => ⟨Hd, es, eh, xc, _, R, xo, m, fun eh1 H1 c s1 R1 m1 => by
    cases c with
    | true => exact iteT ⟨Hd, es, eh1, xc, d, R.step s1 R1, xo.step s1, m1, fun es2 eh2 σ2 H2 s2 => k1 es2 eh2 σ2 H2 (s1.trans s2), fun eh2 H2 x v s2 => k2 eh2 H2 x v (s1.trans s2), fun es2 eh2 σ2 H2 s2 => k3 es2 eh2 σ2 H2 (s1.trans s2), fun es2 eh2 σ2 H2 s2 => k4 es2 eh2 σ2 H2 (s1.trans s2)⟩
    | false => exact iteF ⟨Hd, es, eh1, xc, d, R.step s1 R1, xo.step s1, m1, fun es2 eh2 σ2 H2 s2 => k1 es2 eh2 σ2 H2 (s1.trans s2), fun eh2 H2 x v s2 => k2 eh2 H2 x v (s1.trans s2), fun es2 eh2 σ2 H2 s2 => k3 es2 eh2 σ2 H2 (s1.trans s2), fun es2 eh2 σ2 H2 s2 => k4 es2 eh2 σ2 H2 (s1.trans s2)⟩⟩
theorem Rl.set {K mg Hd} {eh : Eh} {H : Hp} {es : Es} {σ : L2.St} {i : Nat} {x : EV} {v : V} (R : Rl K mg Hd eh H es σ) (r : Rp K mg Hd eh H x v) : Rl K mg Hd eh H (es.set i (some x)) (σ.set i (some v)) := by
  refine ⟨by simp [R.len], fun j y e => ?_, R.obj⟩
  by_cases h : i = j
  · subst h
    rw [List.getElem?_set] at e
    simp only [ite_true] at e
    split at e
    · rename_i hl
      cases e
      exact ⟨v, by rw [List.getElem?_set]; simp [R.len ▸ hl], r⟩
    · cases e
  · rw [List.getElem?_set_ne h] at e
    obtain ⟨w, hw, q⟩ := R.loc j y e
    exact ⟨w, by rw [List.getElem?_set_ne h]; exact hw, q⟩
theorem rs_set {i : Nat} {x : Str} {pos' : Pos} (hN : X.N.Nodup) (he : PE X e (U X.K X.mw E ma)) (hi : X.N[i]? = some x := by rfl) (hx : Loc X.env.scope x := by first | exact Or.inl rfl | exact Or.inr rfl) (hs : swapsWith e (some (.Name x pos')) pos.line X.env = pure false := by rfl)
    (hf : X.fn x = true ∨ X.env.scope.names.lookup x = some .local := by first | exact .inl rfl | exact .inr rfl) : PS X (.Assign [.Name x pos'] e pos) (US X.K X.mw E (sSet i ma)) :=
  PS.imp (ps_set hN hi hx he hs hf) fun D σ H ⟨Hd, es, eh, xc, d, R, xo, m, k1, k2, k3, k4⟩ => ⟨Hd, es, eh, xc, _, R, xo, m, fun eh1 H1 x v s1 R1 r1 m1 => k1 _ eh1 _ H1 s1 ((R.step s1 R1).set r1) m1⟩
end
end VM

/-! VM3: operators by values: +, -, *, //, %, **, comparisons, in, is, subscripts, slices; data read off the heap (Dat). -/
namespace VM
open PySem PySem.Spec PyProof.Rows L2

/-! ### data -/
inductive Dat (eh : Eh) : EV → PyData → Prop
  | non : Dat eh .non .none
  | bl (b) : Dat eh (.bl b) (.bool b)
  | int (i) : Dat eh (.int i) (.int i)
  | str (x) : Dat eh (.str x) (.str x)
  | scr (ns) : Dat eh (.scr ns) (.list (ns.map .int))
  | tup {xs : List EV} {ds : List PyData} : xs.length = ds.length → (∀ (i : Nat) x d, xs[i]? = some x → ds[i]? = some d → Dat eh x d) → Dat eh (.tup xs) (.tuple ds)
  | lst {xs : List EV} {ds : List PyData} : xs.length = ds.length → (∀ (i : Nat) x d, xs[i]? = some x → ds[i]? = some d → Dat eh x d) → Dat eh (.lst xs) (.list ds)
  | ref {a : Addr} {xs : List EV} {ds : List PyData} : eh a = some (.lst xs) → xs.length = ds.length → (∀ (i : Nat) x d, xs[i]? = some x → ds[i]? = some d → Dat eh x d) → Dat eh (.ref a) (.list ds)
mutual
def D : EV → PyData
  | .bl b => .bool b
  | .int i => .int i
  | .str x => .str x
  | .tup xs => .tuple (DL xs)
  | .lst xs => .list (DL xs)
  | _ => .none
def DL : List EV → List PyData
  | [] => []
  | x :: xs => D x :: DL xs
end
mutual
/-- data without references -/
def isD : EV → Bool
  | .non => true
  | .bl _ => true
  | .int _ => true
  | .str _ => true
  | .tup xs => isDL xs
  | .lst xs => isDL xs
  | _ => false
def isDL : List EV → Bool
  | [] => true
  | x :: xs => isD x && isDL xs
end
theorem DL_map : ∀ xs, DL xs = xs.map D
  | [] => rfl
  | x :: xs => by simp [DL, DL_map xs]
mutual
theorem Dat.of (eh : Eh) : ∀ {x : EV}, isD x = true → Dat eh x (D x)
  | .non, _ => .non
  | .bl b, _ => .bl b
  | .int i, _ => .int i
  | .str x, _ => .str x
  | .tup xs, h => .tup (by rw [DL_map]; simp) (Dat.ofL eh (show isDL xs = true from h))
  | .lst xs, h => .lst (by rw [DL_map]; simp) (Dat.ofL eh (show isDL xs = true from h))
theorem Dat.ofL (eh : Eh) : ∀ {xs : List EV}, isDL xs = true → ∀ (i : Nat) x d, xs[i]? = some x → (DL xs)[i]? = some d → Dat eh x d
  | [], _, _, _, _, e, _ => by simp at e
  | x :: xs, h, 0, y, d, e, e' => by
    simp [DL] at e e'; subst e; subst e'
    exact Dat.of eh (by simp [isDL] at h; exact h.1)
  | x :: xs, h, i + 1, y, d, e, e' => Dat.ofL eh (by simp [isDL] at h; exact h.2) i y d (by simpa using e) (by simpa [DL] using e')
end

theorem readsAll_of {h : Heap} : ∀ {us : List Value} {ds : List PyData}, us.length = ds.length → (∀ (i : Nat) u d, us[i]? = some u → ds[i]? = some d → ∃ as, Reads h u d as) → ∃ as, ReadsAll h us ds as
  | [], [], _, _ => ⟨_, .nil⟩
  | u :: us, d :: ds, hl, k => by
    obtain ⟨as, r⟩ := k 0 u d rfl rfl
    obtain ⟨bs, t⟩ := readsAll_of (us := us) (ds := ds) (by simpa using hl) fun i u d e e' => k (i + 1) u d (by simpa using e) (by simpa using e')
    exact ⟨_, .cons r t⟩
  | [], _ :: _, hl, _ => by simp at hl
  | _ :: _, [], hl, _ => by simp at hl
theorem vals_get2 {vs : List V} {us : List Value} {i : Nat} {u : Value} (r : Vals vs us) (h : us[i]? = some u) : ∃ v, vs[i]? = some v ∧ RelV v u := by
  have hl := r.length
  obtain ⟨hi, e⟩ := List.getElem?_eq_some_iff.mp h
  have hv : vs[i]? = some (vs[i]'(by omega)) := List.getElem?_eq_getElem _
  obtain ⟨w, hw, q⟩ := r.get hv
  rw [h] at hw; cases hw
  exact ⟨_, hv, q⟩
section
variable {X : Cx} {pins : List (Addr × Obj)} {σ : L2.St} {H : Hp} {s : Shared} {eh : Eh}
theorem reads_items (I : Inv X pins σ H s) {xs : List EV} {vs : List V} {us : List Value} {ds : List PyData} (r : RpL X.K X.mw Hd eh H xs vs) (rv : Vals vs us) (hl : xs.length = ds.length)
    (ih : ∀ (i : Nat) x d, xs[i]? = some x → ds[i]? = some d → ∀ v u, Rp X.K X.mw Hd eh H x v → RelV v u → ∃ as, Reads s.heap u d as) : ∃ as, ReadsAll s.heap us ds as := by
  refine readsAll_of (by rw [← rv.length, ← r.length, hl]) fun i u d e e' => ?_
  obtain ⟨v, hv, q⟩ := vals_get2 rv e
  obtain ⟨x, hx, p⟩ := r.get' hv
  exact ih i x d hx e' v u p q
theorem Dat.reads (I : Inv X pins σ H s) (R : Rh X.K X.mw Hd eh H) {x : EV} {d : PyData} (h : Dat eh x d) : ∀ v u, Rp X.K X.mw Hd eh H x v → RelV v u → ∃ as, Reads s.heap u d as := by
  induction h with
  | non => intro v u r q; cases r; cases q; exact ⟨_, .none⟩
  | bl b => intro v u r q; cases r; cases q; exact ⟨_, .bool b⟩
  | int i => intro v u r q; cases r; obtain ⟨t, rfl⟩ := q; exact ⟨_, .int i t⟩
  | str x => intro v u r q; cases r; obtain ⟨t, rfl⟩ := q; exact ⟨_, .str x t⟩
  | scr ns =>
    intro v u r q
    obtain ⟨a, rfl, e⟩ := r
    cases q
    obtain ⟨its, rv, ⟨ob, n, e1, e2, e3, e4⟩, hz⟩ := I.list e.sq
    obtain ⟨as, t⟩ := readsAll_of (h := s.heap) (us := its) (ds := ns.map .int) (by rw [← rv.length]; simp) fun i u d hu hd => by
      obtain ⟨v, hv, q⟩ := vals_get2 rv hu
      simp only [List.getElem?_map, Option.map_eq_some_iff] at hv hd
      obtain ⟨n1, hn1, rfl⟩ := hv
      obtain ⟨n2, hn2, rfl⟩ := hd
      rw [hn1] at hn2; cases hn2
      obtain ⟨t, rfl⟩ := q
      exact ⟨_, .int _ t⟩
    exact ⟨_, .list e1 e2 e4 (by simpa using t)⟩
  | tup hl _ ih =>
    intro v u r q
    obtain ⟨a, vs, rfl, ht, r⟩ := r
    cases q
    obtain ⟨its, rv, ⟨o, e1, e2, n, e3⟩, hz⟩ := I.tuple ht
    obtain ⟨as, t⟩ := reads_items I r rv hl ih
    exact ⟨_, .tuple e1 e2 e3 (by simpa using t)⟩
  | lst hl _ ih =>
    intro v u r q
    obtain ⟨a, vs, rfl, ht, _, r⟩ := r
    cases q
    obtain ⟨its, rv, ⟨o, n, e1, e2, e3, e4⟩, hz⟩ := I.list (.inl (.inl ht))
    obtain ⟨as, t⟩ := reads_items I r rv hl ih
    exact ⟨_, .list e1 e2 e4 (by simpa using t)⟩
  | ref he hl _ ih =>
    intro v u r q
    cases r
    cases q
    obtain ⟨vs, ht, r⟩ := R.ob _ _ he
    obtain ⟨its, rv, ⟨o, n, e1, e2, e3, e4⟩, hz⟩ := I.list (.inl (.inl ht))
    obtain ⟨as, t⟩ := reads_items I r rv hl ih
    exact ⟨_, .list e1 e2 e4 (by simpa using t)⟩
end

/-! ### places that hold lists and tuples -/
def lstE (eh : Eh) : EV → Option (List EV)
  | .lst xs => some xs
  | .ref a => match eh a with | some (.lst xs) => some xs | _ => none
  | _ => none
/-- what is read as a sequence -/
def seqE (eh : Eh) : EV → Option (List EV)
  | .tup xs => some xs
  | .lst xs => some xs
  | .scr ns => some (ns.map .int)
  | .ref a => match eh a with | some (.lst xs) => some xs | _ => none
  | _ => none
def dctE (eh : Eh) : EV → Option (List (Key × EV))
  | .dct xs => some xs
  | .ref a => match eh a with | some (.dct xs) => some xs | _ => none
  | _ => none
section
variable {K : PySem.W.Frag} {mg : MW} {Hd : Addr → Prop} {eh : Eh} {H : Hp}
theorem lst_of (R : Rh K mg Hd eh H) {x : EV} {v : V} {xs : List EV} (r : Rp K mg Hd eh H x v) (e : lstE eh x = some xs) : ∃ a vs, v = .ref a ∧ H a = some (.lst vs) ∧ RpL K mg Hd eh H xs vs := by
  cases x with
  | lst ys => cases e; obtain ⟨a, vs, e, h, _, t⟩ := r; exact ⟨a, vs, e, h, t⟩
  | ref a =>
    cases r
    simp only [lstE] at e
    cases h : eh a with
    | none => rw [h] at e; cases e
    | some o =>
      rw [h] at e
      cases o with
      | lst ys => cases e; obtain ⟨vs, h, t⟩ := R.ob a _ h; exact ⟨a, vs, rfl, h, t⟩
      | _ => cases e
  | _ => cases e
theorem seq_of (R : Rh K mg Hd eh H) {x : EV} {v : V} {xs : List EV} (r : Rp K mg Hd eh H x v) (e : seqE eh x = some xs) : ∃ a vs, v = .ref a ∧ (SqL K H a vs ∨ SqT K H a vs) ∧ RpL K mg Hd eh H xs vs := by
  cases x with
  | tup ys => cases e; obtain ⟨a, vs, e, h, t⟩ := r; exact ⟨a, vs, e, .inr h, t⟩
  | scr ns => cases e; obtain ⟨a, e, h⟩ := r; exact ⟨a, _, e, .inl h.sq, RpL.of_ints ns⟩
  | lst ys => cases e; obtain ⟨a, vs, e, h, _, t⟩ := r; exact ⟨a, vs, e, .inl (.inl (.inl h)), t⟩
  | ref a =>
    cases r
    simp only [seqE] at e
    cases h : eh a with
    | none => rw [h] at e; cases e
    | some o =>
      rw [h] at e
      cases o with
      | lst ys => cases e; obtain ⟨vs, h, t⟩ := R.ob a _ h; exact ⟨a, vs, rfl, .inl (.inl (.inl h)), t⟩
      | _ => cases e
  | _ => cases e
theorem dct_of (R : Rh K mg Hd eh H) {x : EV} {v : V} {xs : List (Key × EV)} (r : Rp K mg Hd eh H x v) (e : dctE eh x = some xs) : ∃ a us, v = .ref a ∧ Rd H a (.dK us) ∧ RpK K mg Hd eh H xs us := by
  cases x with
  | dct ys => cases e; obtain ⟨a, o, us, e, h, t⟩ := r; exact ⟨a, us, e, .inr ⟨o, h⟩, t⟩
  | ref a =>
    cases r
    simp only [dctE] at e
    cases h : eh a with
    | none => rw [h] at e; cases e
    | some o =>
      rw [h] at e
      cases o with
      | dct ys => cases e; obtain ⟨us, h, t⟩ := R.ob a _ h; exact ⟨a, us, rfl, .inl h, t⟩
      | _ => cases e
  | _ => cases e
end

/-! ### arithmetic -/
def MulC (i j : Int) : Prop := ((-(2 ^ 64) < i ∧ i < 2 ^ 64) ∨ (-(2 ^ 64) < j ∧ j < 2 ^ 64)) ∨ (Builtin.Int.intBits i : Int) + (Builtin.Int.intBits j : Int) ≤ 134217728
def oAdd : EO2 := fun x y eh q => match x, y with
  | .int i, .int j => q (.int (i + j)) eh
  | .str i, .str j => i.length + j.length ≤ sizeLine ∧ q (.str (i ++ j)) eh
  | .tup xs, .tup ys => xs ≠ [] ∧ xs.length + ys.length ≤ sizeLine ∧ q (.tup (xs ++ ys)) eh
  | x, y => ∃ xs ys, lstE eh x = some xs ∧ lstE eh y = some ys ∧ xs.length + ys.length ≤ sizeLine ∧ q (.lst (xs ++ ys)) eh
def oSub : EO2 := fun x y eh q => match x, y with
  | .int i, .int j => q (.int (i - j)) eh
  | _, _ => False
def oMul : EO2 := fun x y eh q => match x, y with
  | .int i, .int j => MulC i j ∧ q (.int (i * j)) eh
  | x, .int k => ∃ xs, lstE eh x = some xs ∧ -(2 ^ 63) ≤ k ∧ k < 2 ^ 63 ∧ xs.length * k.toNat ≤ sizeLine ∧ q (.lst (List.replicate k.toNat xs).flatten) eh
  | _, _ => False
def oDiv : EO2 := fun x y eh q => match x, y with
  | .int i, .int j => (0 < j ∧ j.natAbs.log2 < 9000) ∧ q (.int (i / j)) eh
  | _, _ => False
def oMod : EO2 := fun x y eh q => match x, y with
  | .int i, .int j => 0 < j ∧ q (.int (i % j)) eh
  | _, _ => False
def oPow : EO2 := fun x y eh q => match x, y with
  | .int i, .int j => (0 ≤ j ∧ (Builtin.Int.intBits i : Int) * j ≤ 2 ^ 27) ∧ q (.int (i ^ j.toNat)) eh
  | _, _ => False
def oNeg : EO1 := fun x eh q => match x with
  | .int i => q (.int (-i)) eh
  | _ => False
section
variable {X : Cx}
theorem vo_int {f : Value → Value → Sem Value} {C : Int → Int → Prop} {g : Int → Int → V} {g' : Int → Int → EV} {o : EO2} (h : OpR X f (rI C g)) (ho : ∀ x y eh q, o x y eh q → ∃ i j, x = .int i ∧ y = .int j ∧ C i j ∧ q (g' i j) eh)
    (hg : ∀ Hd eh H i j, Rp X.K X.mw Hd eh H (g' i j) (g i j)) : OpR X f (U2 X.K X.mw o) :=
  OpR.imp h fun v u H Q ⟨Hd, eh, x, y, q, R, rx, ry, m, k⟩ => by
    obtain ⟨i, j, rfl, rfl, c, m⟩ := ho x y eh q m
    cases rx; cases ry
    exact ⟨i, j, rfl, rfl, c, k eh H _ _ .refl R (hg _ _ _ _ _) m⟩
theorem vo_int0 {f : Value → Value → Sem Value} {g : Int → Int → V} {g' : Int → Int → EV} {o : EO2} (h : OpR X f (rI0 g)) (ho : ∀ x y eh q, o x y eh q → ∃ i j, x = .int i ∧ y = .int j ∧ q (g' i j) eh)
    (hg : ∀ Hd eh H i j, Rp X.K X.mw Hd eh H (g' i j) (g i j)) : OpR X f (U2 X.K X.mw o) :=
  OpR.imp h fun v u H Q ⟨Hd, eh, x, y, q, R, rx, ry, m, k⟩ => by
    obtain ⟨i, j, rfl, rfl, m'⟩ := ho x y eh q m
    cases rx; cases ry
    exact ⟨i, j, rfl, rfl, k eh H _ _ .refl R (hg _ _ _ _ _) m'⟩
theorem OpR.false {f : Value → Value → Sem Value} : OpR X f (fun _ _ _ _ => False) := fun _ _ _ _ _ _ _ _ _ _ _ _ h => h.elim
theorem op_sub_int : OpR X (binaryOp .Sub) (U2 X.K X.mw oSub) := vo_int0 (g' := fun i j => .int (i - j)) op_sub (fun x y eh q h => by
  unfold oSub at h; split at h
  · exact ⟨_, _, rfl, rfl, h⟩
  · exact h.elim) fun _ _ _ _ _ => rfl
theorem op_div_int : OpR X (binaryOp .FloorDiv) (U2 X.K X.mw oDiv) := vo_int (g' := fun i j => .int (i / j)) op_fdivW (fun x y eh q h => by
  unfold oDiv at h; split at h
  · exact ⟨_, _, rfl, rfl, h.1, h.2⟩
  · exact h.elim) fun _ _ _ _ _ => rfl
theorem op_mod_int : OpR X (binaryOp .Mod) (U2 X.K X.mw oMod) := vo_int (g' := fun i j => .int (i % j)) op_mod (fun x y eh q h => by
  unfold oMod at h; split at h
  · exact ⟨_, _, rfl, rfl, h.1, h.2⟩
  · exact h.elim) fun _ _ _ _ _ => rfl
theorem op_powB : OpR X (binaryOp .Pow) (rI (fun i j => 0 ≤ j ∧ (Builtin.Int.intBits i : Int) * j ≤ 2 ^ 27) fun i j => .int (i ^ j.toNat)) := opI fun _ _ _ _ _ _ _ hc q => pow_int hc.1 hc.2 q
theorem op_pow_int : OpR X (binaryOp .Pow) (U2 X.K X.mw oPow) := vo_int (g' := fun i j => .int (i ^ j.toNat)) op_powB (fun x y eh q h => by
  unfold oPow at h; split at h
  · exact ⟨_, _, rfl, rfl, h.1, h.2⟩
  · exact h.elim) fun _ _ _ _ _ => rfl
theorem un_neg_int : UnR X (unaryOp .USub) (U1 X.K X.mw oNeg) := by
  intro pins s σ H v a Q I r1 ⟨Hd, eh, x, q, R, rx, m, k⟩
  unfold oNeg at m
  split at m
  · cases rx
    exact un_neg pins s σ H _ a Q I r1 ⟨_, rfl, k eh H (.int _) (.int _) .refl R rfl m⟩
  · exact m.elim
theorem op_cat2 : OpR X (binaryOp .Add) (U2 X.K X.mw fun x y eh q => ∃ xs ys, lstE eh x = some xs ∧ lstE eh y = some ys ∧ xs.length + ys.length ≤ sizeLine ∧ q (.lst (xs ++ ys)) eh) :=
  OpR.imp op_cat fun v u H Q ⟨Hd, eh, x, y, q, R, rx, ry, ⟨xs, ys, ex, ey, hl, m⟩, k⟩ => by
    obtain ⟨a, vs, rfl, ha, ra⟩ := lst_of R rx ex
    obtain ⟨b, us, rfl, hb, rb⟩ := lst_of R ry ey
    exact ⟨a, b, vs, us, rfl, rfl, ha, hb, by rw [← ra.length, ← rb.length]; exact hl, fun p hp => k eh _ (.lst (xs ++ ys)) (.ref p) (.newF hp) (R.newF hp) ⟨p, _, rfl, upd_same, ⟨R.fresh hp, R.notHid hp⟩, (ra.append rb).step (.newF hp)⟩ m⟩
theorem op_add_any : OpR X (binaryOp .Add) (U2 X.K X.mw oAdd) := by
  intro pins s σ H v u a b Q I r1 r2 ⟨Hd, eh, x, y, q, R, rx, ry, m, k⟩
  unfold oAdd at m
  split at m
  · cases rx; cases ry
    exact op_add pins s σ H _ _ a b Q I r1 r2 ⟨_, _, rfl, rfl, k eh H (.int _) (.int _) .refl R rfl m⟩
  · cases rx; cases ry
    exact op_add_str pins s σ H _ _ a b Q I r1 r2 ⟨_, _, rfl, rfl, m.1, k eh H (.str _) (.str _) .refl R rfl m.2⟩
  · rename_i xs ys
    obtain ⟨p, vs, rfl, hp, rp⟩ := rx
    obtain ⟨p', us, rfl, hp', rp'⟩ := ry
    refine op_catT pins s σ H _ _ a b Q I r1 r2 ⟨p, p', vs, us, rfl, rfl, hp, hp', ?_, by rw [← rp.length, ← rp'.length]; exact m.2.1, ?_, ?_⟩
    · intro z; subst z; have := rp.length; cases xs with
      | nil => exact m.1 rfl
      | cons _ _ => simp at this
    · intro z; subst z
      have : ys = [] := by cases ys with
        | nil => rfl
        | cons _ _ => have := rp'.length; simp at this
      subst this
      exact k eh H (.tup (xs ++ [])) (.ref p) .refl R ⟨p, vs, rfl, hp, by simpa using rp⟩ m.2.2
    · intro _ t ht
      exact k eh _ (.tup (xs ++ ys)) (.ref t) (.newF ht) (R.newF ht) ⟨t, _, rfl, .inl (.inl upd_same), (rp.append rp').step (.newF ht)⟩ m.2.2
  · exact op_cat2 pins s σ H v u a b Q I r1 r2 ⟨Hd, eh, x, y, q, R, rx, ry, m, k⟩
theorem op_mul_any : OpR X (binaryOp .Mult) (U2 X.K X.mw oMul) := by
  intro pins s σ H v u a b Q I r1 r2 ⟨Hd, eh, x, y, q, R, rx, ry, m, k⟩
  unfold oMul at m
  split at m
  · cases rx; cases ry
    obtain ⟨c | c, m⟩ := m
    · exact op_mul pins s σ H _ _ a b Q I r1 r2 ⟨_, _, rfl, rfl, c, k eh H (.int _) (.int _) .refl R rfl m⟩
    · exact op_mulX pins s σ H _ _ a b Q I r1 r2 ⟨_, _, rfl, rfl, c, k eh H (.int _) (.int _) .refl R rfl m⟩
  · cases ry
    obtain ⟨xs, ex, h1, h2, h3, m⟩ := m
    obtain ⟨p, vs, rfl, hp, rp⟩ := lst_of R rx ex
    refine op_rep pins s σ H _ _ a b Q I r1 r2 ⟨p, _, vs, rfl, rfl, hp, h1, h2, by rw [← rp.length]; exact h3, fun t ht => k eh _ (.lst _) (.ref t) (.newF ht) (R.newF ht) ⟨t, _, rfl, upd_same, ⟨R.fresh ht, R.notHid ht⟩, ?_⟩ m⟩
    rename_i kk _
    have : ∀ n : Nat, RpL X.K X.mw Hd eh (upd H t (.lst (List.replicate kk.toNat vs).flatten)) (List.replicate n xs).flatten (List.replicate n vs).flatten := by
      intro n
      induction n with
      | zero => exact rfl
      | succ n ih => simp only [List.replicate_succ, List.flatten_cons]; exact (rp.step (.newF ht)).append ih
    exact this _
  · exact m.elim

/-! ### comparisons -/
def cInt (p : Int → Int → Bool) : EO2 := fun x y eh q => match x, y with
  | .int i, .int j => q (.bl (p i j)) eh
  | _, _ => False
abbrev oLt : EO2 := cInt fun i j => decide (i < j)
abbrev oLe : EO2 := cInt fun i j => decide (i ≤ j)
abbrev oGt : EO2 := cInt fun i j => decide (j < i)
abbrev oGe : EO2 := cInt fun i j => decide (j ≤ i)
theorem cInt_ok {f : Value → Value → Sem Value} {p : Int → Int → Bool} (h : OpR X f (rI0 fun i j => .bl (p i j))) : OpR X f (U2 X.K X.mw (cInt p)) :=
  vo_int0 (g' := fun i j => .bl (p i j)) h (fun x y eh q h => by
    unfold cInt at h; split at h
    · exact ⟨_, _, rfl, rfl, h⟩
    · exact h.elim) fun _ _ _ _ _ => rfl
theorem op_lt_int : OpR X (compareOp .Lt) (U2 X.K X.mw oLt) := cInt_ok op_lt
theorem op_le_int : OpR X (compareOp .LtE) (U2 X.K X.mw oLe) := cInt_ok op_le
theorem op_gt_int : OpR X (compareOp .Gt) (U2 X.K X.mw oGt) := cInt_ok op_gt
theorem op_ge_int : OpR X (compareOp .GtE) (U2 X.K X.mw oGe) := cInt_ok op_ge
/-- two data compared -/
def cEq (neg : Bool) : EO2 := fun x y eh q => match x, y with
  | .int i, .int j => q (.bl (neg ^^ decide (i = j))) eh
  | .str i, .str j => q (.bl (neg ^^ decide (i = j))) eh
  | .bl i, .bl j => q (.bl (neg ^^ decide (i = j))) eh
  | .non, .non => q (.bl (neg ^^ true)) eh
  | x, y => ∃ d e, Dat eh x d ∧ Dat eh y e ∧ d.plain = true ∧ e.plain = true ∧ min d.depth e.depth ≤ 60 ∧ q (.bl (neg ^^ PyData.eqv d e)) eh
theorem op_eq_any {k : Nat} (hr : RoomG k X.A) : OpR X (compareOp .Eq) (U2 X.K X.mw (cEq false)) := by
  have hu := hr.units
  intro pins s σ H v u a b Q I r1 r2 ⟨Hd, eh, x, y, q, R, rx, ry, m, k⟩
  unfold cEq at m
  split at m
  · cases rx; cases ry
    exact op_eq pins s σ H _ _ a b Q I r1 r2 ⟨rfl, k eh H _ _ .refl R (by simp [Rp]) m⟩
  · cases rx; cases ry
    exact op_eq pins s σ H _ _ a b Q I r1 r2 ⟨rfl, k eh H _ _ .refl R (by simp [Rp]) m⟩
  · cases rx; cases ry
    exact op_eq pins s σ H _ _ a b Q I r1 r2 ⟨rfl, k eh H _ _ .refl R (by simp [Rp]) m⟩
  · cases rx; cases ry
    exact op_eq pins s σ H _ _ a b Q I r1 r2 ⟨rfl, k eh H _ _ .refl R (by simp [Rp]) m⟩
  · obtain ⟨d, e, hd, he, pd, pe, hz, m⟩ := m
    obtain ⟨as, ra⟩ := hd.reads I R _ _ rx r1
    obtain ⟨bs, rb⟩ := he.reads I R _ _ ry r2
    exact SeqAt.eq_plain ra rb pd pe (by omega) ⟨.bl (PyData.eqv d e), H, I, rfl, k eh H (.bl _) _ .refl R (by simp [Rp]) m⟩
theorem op_ne_any {k : Nat} (hr : RoomG k X.A) : OpR X (compareOp .NotEq) (U2 X.K X.mw (cEq true)) := by
  have hu := hr.units
  intro pins s σ H v u a b Q I r1 r2 ⟨Hd, eh, x, y, q, R, rx, ry, m, k⟩
  unfold cEq at m
  split at m
  · cases rx; cases ry
    exact op_ne pins s σ H _ _ a b Q I r1 r2 ⟨rfl, k eh H _ _ .refl R (by simp [Rp]) m⟩
  · cases rx; cases ry
    exact op_ne pins s σ H _ _ a b Q I r1 r2 ⟨rfl, k eh H _ _ .refl R (by simp [Rp]) m⟩
  · cases rx; cases ry
    exact op_ne pins s σ H _ _ a b Q I r1 r2 ⟨rfl, k eh H _ _ .refl R (by simp [Rp]) m⟩
  · cases rx; cases ry
    exact op_ne pins s σ H _ _ a b Q I r1 r2 ⟨rfl, k eh H _ _ .refl R (by simp [Rp]) m⟩
  · obtain ⟨d, e, hd, he, pd, pe, hz, m⟩ := m
    obtain ⟨as, ra⟩ := hd.reads I R _ _ rx r1
    obtain ⟨bs, rb⟩ := he.reads I R _ _ ry r2
    exact SeqAt.ne_plain ra rb pd pe (by omega) ⟨.bl (!PyData.eqv d e), H, I, rfl, k eh H (.bl _) _ .refl R (by simp [Rp]) m⟩
/-- is None, is not None -/
def cIsN (neg : Bool) : EO2 := fun x y eh q => match y with
  | .non => (match x with
    | .non => q (.bl (neg ^^ true)) eh
    | .glo _ => False
    | _ => q (.bl (neg ^^ false)) eh)
  | _ => False
theorem isN_of {K mg Hd} {eh : Eh} {H : Hp} {x : EV} {v : V} (r : Rp K mg Hd eh H x v) (h : ∀ y, x ≠ .glo y) : decide (v = .non) = (match x with | .non => true | _ => false) := by
  cases x with
  | non => cases r; rfl
  | glo y => exact absurd rfl (h y)
  | bl _ => cases r; rfl
  | int _ => cases r; rfl
  | str _ => cases r; rfl
  | ty _ => cases r; rfl
  | ref _ => cases r; rfl
  | scr _ => obtain ⟨a, rfl, _⟩ := r; rfl
  | tup _ => obtain ⟨a, vs, rfl, _⟩ := r; rfl
  | lst _ => obtain ⟨a, vs, rfl, _⟩ := r; rfl
  | dct _ => obtain ⟨a, o, vs, rfl, _⟩ := r; rfl
  | obj _ _ => obtain ⟨a, c, dx, us, rfl, _⟩ := r; rfl
  | exc _ _ => obtain ⟨a, c, d, u, rfl, _⟩ := r; rfl
  | exa _ _ _ => obtain ⟨a, c, d, u, ⟨rfl, _⟩, _⟩ := r; rfl
  | dn _ => obtain ⟨a, o, ys, us, rfl, _⟩ := r; rfl
theorem op_is_n : OpR X (compareOp .Is) (U2 X.K X.mw (cIsN false)) :=
  OpR.imp op_isN fun v u H Q ⟨Hd, eh, x, y, q, R, rx, ry, m, k⟩ => by
    cases y with
    | non =>
      cases ry
      refine ⟨rfl, ?_⟩
      unfold cIsN at m
      cases x with
      | glo z => exact m.elim
      | _ => rw [isN_of rx (fun _ z => nomatch z)]; exact k eh H (.bl _) (.bl _) .refl R rfl m
    | _ => exact m.elim
theorem op_isnot_n : OpR X (compareOp .IsNot) (U2 X.K X.mw (cIsN true)) :=
  OpR.imp op_notN fun v u H Q ⟨Hd, eh, x, y, q, R, rx, ry, m, k⟩ => by
    cases y with
    | non =>
      cases ry
      refine ⟨rfl, ?_⟩
      unfold cIsN at m
      cases x with
      | glo z => exact m.elim
      | _ => rw [isN_of rx (fun _ z => nomatch z)]; exact k eh H (.bl _) (.bl _) .refl R rfl m
    | _ => exact m.elim
/-- in: a sequence of data, a text, a dict -/
def keyE : EV → Option Key
  | .int i => some (.inl i)
  | .str x => some (.inr x)
  | _ => none
theorem keyE_of {K mg Hd} {eh : Eh} {H : Hp} {x : EV} {v : V} {k : Key} (r : Rp K mg Hd eh H x v) (h : keyE x = some k) : v = kV k := by
  cases x with
  | int i => cases h; exact r
  | str i => cases h; exact r
  | _ => cases h
def getK : List (Key × EV) → Key → Option EV
  | [], _ => none
  | (k', x) :: r, k => if k' = k then some x else getK r k
def cIn (neg : Bool) : EO2 := fun x y eh q => match y with
  | .str z => (match x with
    | .str a => q (.bl (neg ^^ !(Builtin.Str.occurrences z a 0 z.length 1).isEmpty)) eh
    | _ => False)
  | y => (∃ ys ds d, seqE eh y = some ys ∧ ys.length = ds.length ∧ (∀ (i : Nat) z e, ys[i]? = some z → ds[i]? = some e → Dat eh z e) ∧ Dat eh x d ∧ PyData.plainAll ds = true ∧ d.plain = true ∧ d.depth ≤ 60 ∧
      q (.bl (neg ^^ ds.any fun e => PyData.eqv e d)) eh) ∨
    (∃ kvs k, dctE eh y = some kvs ∧ keyE x = some k ∧ q (.bl (neg ^^ (getK kvs k).isSome)) eh)
theorem lookup_valV {K mg Hd} {eh : Eh} {H : Hp} {k : Key} : ∀ {kvs : List (Key × EV)} {us : List (Key × V)}, RpK K mg Hd eh H kvs us → (∀ x, getK kvs k = some x → ∃ v, valV us k = some v ∧ Rp K mg Hd eh H x v) ∧ (getK kvs k = none → valV us k = none)
  | [], _, h => by cases h; exact ⟨fun _ e => by simp [getK] at e, fun _ => rfl⟩
  | (k', y) :: kvs, _, ⟨v, r, e, p, t⟩ => by
    subst e
    have ih := lookup_valV (k := k) t
    by_cases hk : k' = k
    · subst hk
      refine ⟨fun x e => ?_, fun e => ?_⟩
      · simp [getK] at e; subst e; exact ⟨v, by simp [valV], p⟩
      · simp [getK] at e
    · have e1 : getK ((k', y) :: kvs) k = getK kvs k := by simp [getK, hk]
      have e2 : valV ((k', v) :: r) k = valV r k := by simp [valV, List.find?_cons, hk]
      rw [e1, e2]; exact ih
theorem dget_rd {H : Hp} {a : Addr} {kvs : List (Key × V)} {k : Key} (e : Rd H a (.dK kvs)) : DGet H a (kV k) (valV kvs k) := .inl ⟨kvs, k, e, rfl, rfl⟩
theorem lookup_some {K mg Hd} {eh : Eh} {H : Hp} {k : Key} {kvs : List (Key × EV)} {us : List (Key × V)} (r : RpK K mg Hd eh H kvs us) : (valV us k).isSome = (getK kvs k).isSome := by
  have := lookup_valV (k := k) r
  cases e : getK kvs k with
  | none => rw [this.2 e]; rfl
  | some x => obtain ⟨v, h, _⟩ := this.1 x e; rw [h]; rfl
theorem op_in_any {k : Nat} (hr : RoomG k X.A) : OpR X (compareOp .In) (U2 X.K X.mw (cIn false)) := by
  have hu := hr.units
  intro pins s σ H v u a b Q I r1 r2 ⟨Hd, eh, x, y, q, R, rx, ry, m, k⟩
  unfold cIn at m
  split at m
  · split at m
    · cases rx; cases ry
      exact op_in_str pins s σ H _ _ a b Q I r1 r2 ⟨_, _, rfl, rfl, k eh H _ _ .refl R (by simp [Rp]) m⟩
    · exact m.elim
  · rcases m with ⟨ys, ds, d, es, hl, hi, hd, pa, pd, hz, m⟩ | ⟨kvs, kk, es, ek, m⟩
    · obtain ⟨p, vs, rfl, hp, rp⟩ := seq_of R ry es
      cases r2
      obtain ⟨as, ra⟩ := hd.reads I R _ _ rx r1
      rcases hp with hp | hp
      · obtain ⟨its, rv, ⟨o, n, e1, e2, e3, e4⟩, _⟩ := I.list hp
        obtain ⟨bs, rb⟩ := reads_items I rp rv hl fun i x d e e' v u p q => (hi i x d e e').reads I R v u p q
        exact SeqAt.in_list_data (.list e1 e2 e4 (by simpa using rb)) ra pa pd (by omega) ⟨.bl _, H, I, rfl, k eh H (.bl _) (.bl _) .refl R (by simp [Rp]) m⟩
      · obtain ⟨its, rv, ⟨o, e1, e2, n, e3⟩, _⟩ := I.tuple hp
        obtain ⟨bs, rb⟩ := reads_items I rp rv hl fun i x d e e' v u p q => (hi i x d e e').reads I R v u p q
        exact SeqAt.in_tuple_data (.tuple e1 e2 e3 (by simpa using rb)) ra pa pd (by omega) ⟨.bl _, H, I, rfl, k eh H (.bl _) (.bl _) .refl R (by simp [Rp]) m⟩
    · obtain ⟨p, us, rfl, hp, rp⟩ := dct_of R ry es
      cases r2
      have ev := keyE_of rx ek
      subst ev
      refine d_in (by omega) I (dget_rd hp) r1 fun s' I' => ⟨.bl _, H, I', rfl, ?_⟩
      rw [lookup_some rp]
      exact k eh H (.bl _) (.bl _) .refl R (by simp [Rp]) m
theorem op_notin_any {k : Nat} (hr : RoomG k X.A) : OpR X (compareOp .NotIn) (U2 X.K X.mw (cIn true)) := by
  have hu := hr.units
  intro pins s σ H v u a b Q I r1 r2 ⟨Hd, eh, x, y, q, R, rx, ry, m, k⟩
  unfold cIn at m
  split at m
  · split at m
    · cases rx; cases ry
      exact op_notin_str pins s σ H _ _ a b Q I r1 r2 ⟨_, _, rfl, rfl, k eh H (.bl _) (.bl _) .refl R (by simp [Rp]) m⟩
    · exact m.elim
  · rcases m with ⟨ys, ds, d, es, hl, hi, hd, pa, pd, hz, m⟩ | ⟨kvs, kk, es, ek, m⟩
    · obtain ⟨p, vs, rfl, hp, rp⟩ := seq_of R ry es
      cases r2
      obtain ⟨as, ra⟩ := hd.reads I R _ _ rx r1
      rcases hp with hp | hp
      · obtain ⟨its, rv, ⟨o, n, e1, e2, e3, e4⟩, _⟩ := I.list hp
        obtain ⟨bs, rb⟩ := reads_items I rp rv hl fun i x d e e' v u p q => (hi i x d e e').reads I R v u p q
        exact SeqAt.notIn_list_data (.list e1 e2 e4 (by simpa using rb)) ra pa pd (by omega) ⟨.bl _, H, I, rfl, k eh H (.bl _) (.bl _) .refl R (by simp [Rp]) m⟩
      · obtain ⟨its, rv, ⟨o, e1, e2, n, e3⟩, _⟩ := I.tuple hp
        obtain ⟨bs, rb⟩ := reads_items I rp rv hl fun i x d e e' v u p q => (hi i x d e e').reads I R v u p q
        exact SeqAt.notIn_tuple_data (.tuple e1 e2 e3 (by simpa using rb)) ra pa pd (by omega) ⟨.bl _, H, I, rfl, k eh H (.bl _) (.bl _) .refl R (by simp [Rp]) m⟩
    · obtain ⟨p, us, rfl, hp, rp⟩ := dct_of R ry es
      cases r2
      have ev := keyE_of rx ek
      subst ev
      refine d_notIn (by omega) I (dget_rd hp) r1 fun s' I' => ⟨.bl _, H, I', rfl, ?_⟩
      rw [lookup_some rp]
      exact k eh H (.bl _) (.bl _) .refl R (by simp [Rp]) m

/-! ### subscripts, slices -/
def oIx : EO2 := fun x y eh q => match x with
  | .str z => (match y with
    | .int i => z.length ≤ sizeLine ∧ ∃ c, atI z.cps.toList i = some c ∧ q (.str ⟨#[c]⟩) eh
    | _ => False)
  | x => (∃ xs i z, seqE eh x = some xs ∧ y = .int i ∧ atI xs i = some z ∧ q z eh) ∨ (∃ kvs k z, dctE eh x = some kvs ∧ keyE y = some k ∧ getK kvs k = some z ∧ q z eh)
theorem atI_rp {K mg Hd} {eh : Eh} {H : Hp} {xs : List EV} {vs : List V} {i : Int} {z : EV} (r : RpL K mg Hd eh H xs vs) (h : atI xs i = some z) : ∃ w, atI vs i = some w ∧ Rp K mg Hd eh H z w := by
  unfold atI at h ⊢
  rw [← r.length]
  cases e : ixN xs.length i with
  | none => rw [e] at h; cases h
  | some j => rw [e] at h; exact r.get h
theorem ix_any {k : Nat} (hr : RoomG k X.A) : IxR X (U2 X.K X.mw oIx) := by
  have hu := hr.units
  intro value slice pins s σ H v u a b Q I r1 r2 ⟨Hd, eh, x, y, q, R, rx, ry, m, k⟩ hs
  unfold oIx at m
  split at m
  · split at m
    · cases rx; cases ry
      obtain ⟨hz, c, hc, m⟩ := m
      exact ix_str value slice pins s σ H _ _ a b Q I r1 r2 ⟨_, _, c, rfl, rfl, hz, hc, k eh H (.str _) (.str _) .refl R rfl m⟩ hs
    · exact m.elim
  · rcases m with ⟨xs, i, z, es, rfl, hz, m⟩ | ⟨kvs, kk, z, es, ek, hz, m⟩
    · obtain ⟨p, vs, rfl, hp, rp⟩ := seq_of R rx es
      cases ry
      obtain ⟨w, hw, rw'⟩ := atI_rp rp hz
      rcases hp with hp | hp
      · exact ix_list value slice pins s σ H _ _ a b Q I r1 r2 ⟨p, vs, i, w, rfl, rfl, hp, hw, k eh H _ _ .refl R rw' m⟩ hs
      · exact ix_tup value slice pins s σ H _ _ a b Q I r1 r2 ⟨p, vs, i, w, rfl, rfl, hp, hw, k eh H _ _ .refl R rw' m⟩ hs
    · obtain ⟨p, us, rfl, hp, rp⟩ := dct_of R rx es
      cases r1
      have ev := keyE_of ry ek
      subst ev
      obtain ⟨w, hw, rw'⟩ := (lookup_valV (k := kk) rp).1 z hz
      have g : DGet H p (kV kk) (some w) := by rw [← hw]; exact dget_rd hp
      have tI := dict_typeIs I g
      unfold subscriptTail
      refine wpAny_bind ?_
      rw [getitemInPython_of_ne tI.not_modules]
      refine wpAny_bind (wpAny_specialOf tI PySem.F.slot_dict_getitem.lookup ?_)
      have fin : wpAny (model X.prog X.w) X.A (subscripted slice false (.ref p) b) (fun r s₃ => wpAny (model X.prog X.w) X.A (letTemporaryGo value (.ref p) r >>= fun _ => pure r) (EP X pins σ Q) X.xe s₃) X.xe s := by
        rw [hs]
        exact wpAny_operating (d_getItem (by omega) I g r2 fun w' s' I' rw2 => wpAny_bind (wpAny_letTemporaryGo (wpAny_pure ⟨w, H, I', rw2, k eh H _ _ .refl R rw' m⟩)))
      first
        | exact wpAny_pure (wpAny_bind fin)
        | exact wpAny_bind (wpAny_pure (wpAny_bind fin))
        | exact wpAny_bind fin
end
end VM

/-! VM4: targets, what is walked, for, while, comprehensions, calls of defs, bodies of defs. -/
namespace VM
open PySem PySem.Spec PyProof.Rows L2

/-! ### targets -/
inductive Tg where
  | nm (i : Nat) | tp (ts : List Tg)
mutual
def asg : Tg → EV → Es → Option Es
  | .nm i, x, es => some (es.set i (some x))
  | .tp ts, .tup xs, es => asgL ts xs es
  | .tp _, _, _ => none
def asgL : List Tg → List EV → Es → Option Es
  | [], [], es => some es
  | t :: ts, x :: xs, es => (asg t x es).bind fun es' => asgL ts xs es'
  | _, _, _ => none
end
mutual
def slots : Tg → List Nat
  | .nm i => [i]
  | .tp ts => slotsL ts
def slotsL : List Tg → List Nat
  | [] => []
  | t :: ts => slots t ++ slotsL ts
end
section
variable (K : PySem.W.Frag) (mg : MW)
def UG (t : Tg) : TG := fun v σ H Q => ∃ Hd es eh x es', Rl K mg Hd eh H es σ ∧ Rp K mg Hd eh H x v ∧ asg t x es = some es' ∧
  ∀ σ', Rl K mg Hd eh H es' σ' → σ'.length = σ.length → (∀ i, i ∉ slots t → σ'[i]? = σ[i]?) → Q σ' H
def UGs (ts : List Tg) : TGs := fun vs σ H Q => ∃ Hd es eh xs es', Rl K mg Hd eh H es σ ∧ RpL K mg Hd eh H xs vs ∧ asgL ts xs es = some es' ∧
  ∀ σ', Rl K mg Hd eh H es' σ' → σ'.length = σ.length → (∀ i, i ∉ slotsL ts → σ'[i]? = σ[i]?) → Q σ' H
end
theorem asgL_length : ∀ {ts : List Tg} {xs : List EV} {es es' : Es}, asgL ts xs es = some es' → ts.length = xs.length
  | [], [], _, _, _ => rfl
  | t :: ts, x :: xs, es, es', h => by
    simp only [asgL, Option.bind_eq_some_iff] at h
    obtain ⟨_, _, h⟩ := h
    simp [asgL_length h]
  | [], _ :: _, _, _, h => by simp [asgL] at h
  | _ :: _, [], _, _, h => by simp [asgL] at h
section
variable {X : Cx} {pos : Pos}
theorem PG.imp {e : Expr} {t t' : TG} (h : PG X e t) (i : ∀ v σ H Q, t' v σ H Q → t v σ H Q) : PG X e t' := ⟨fun pins s σ H v u Q I r w => h.run pins s σ H v u Q I r (i v σ H Q w)⟩
theorem PGs.imp {e : List Expr} {t t' : TGs} (h : PGs X e t) (i : ∀ v σ H Q, t' v σ H Q → t v σ H Q) : PGs X e t' := ⟨fun pins s σ H v u Q I r w => h.run pins s σ H v u Q I r (i v σ H Q w)⟩
theorem rg_nm {i : Nat} {x : Str} (hN : X.N.Nodup) (hi : X.N[i]? = some x := by rfl) (hx : Loc X.env.scope x := by first | exact Or.inl rfl | exact Or.inr rfl) (hf : X.fn x = true ∨ X.env.scope.names.lookup x = some .local := by first | exact .inl rfl | exact .inr rfl) : PG X (.Name x pos) (UG X.K X.mw (.nm i)) :=
  PG.imp (pg_name hN hi hx hf) fun v σ H Q ⟨Hd, es, eh, x, es', R, r, e, k⟩ => by
    cases e
    exact k _ (R.set r) (by simp) fun j hj => List.getElem?_set_ne fun z => hj (by simp [slots, z])
theorem rgs_nil : PGs X [] (UGs X.K X.mw []) := PGs.imp pgs_nil fun v σ H Q ⟨Hd, es, eh, xs, es', R, r, e, k⟩ => by
  have hl := asgL_length e
  cases xs with
  | cons _ _ => simp at hl
  | nil => cases r; cases e; exact ⟨rfl, k σ R rfl fun _ _ => rfl⟩
theorem rgs_cons {e : Expr} {es : List Expr} {t : Tg} {ts : List Tg} (h1 : PG X e (UG X.K X.mw t)) (h2 : PGs X es (UGs X.K X.mw ts))
    (hs : (assignEach (e :: es) X.env).map (·.2) = assign e X.env :: (assignEach es X.env).map (·.2) := by rfl) : PGs X (e :: es) (UGs X.K X.mw (t :: ts)) :=
  PGs.imp (pgs_cons h1 h2 hs) fun v σ H Q ⟨Hd, es, eh, xs, es', R, r, e, k⟩ => by
    cases xs with
    | nil => simp [asgL] at e
    | cons x xs =>
      obtain ⟨v, vr, rfl, rx, rr⟩ := r
      simp only [asgL, Option.bind_eq_some_iff] at e
      obtain ⟨es1, e1, e2⟩ := e
      refine ⟨v, vr, rfl, Hd, es, eh, x, es1, R, rx, e1, fun σ1 R1 l1 s1 => ⟨Hd, es1, eh, xs, es', R1, rr, e2, fun σ2 R2 l2 s2 => k σ2 R2 (l2.trans l1) fun i hi => ?_⟩⟩
      have hi' : i ∉ slots t ∧ i ∉ slotsL ts := by simpa [slotsL] using hi
      exact (s2 i hi'.2).trans (s1 i hi'.1)
theorem rg_tp {es : List Expr} {kk : Nat} {ts : List Tg} (hc : X.calm = true) (h : PGs X es (UGs X.K X.mw ts)) (hn : (assignEach es X.env).length = ts.length := by rfl)
    (hst : (assignEach es X.env).findIdx? (·.1) = none := by rfl) : PG X (.Tuple es kk pos) (UG X.K X.mw (.tp ts)) :=
  PG.imp (pg_tup hc h hn hst) fun v σ H Q ⟨Hd, es, eh, x, es', R, r, e, k⟩ => by
    cases x with
    | tup xs =>
      obtain ⟨a, vs, rfl, ht, r⟩ := r
      exact ⟨a, vs, rfl, ht, by rw [← r.length, asgL_length e], Hd, es, eh, xs, es', R, r, e, k⟩
    | _ => simp [asg] at e
end
/-- target = value -/
def sAsg (t : Tg) (m : ME) : MS := fun xc d es eh => m xc es eh fun x eh1 => ∃ es', asg t x es = some es' ∧ d.nx es' eh1
theorem rs_asg {X : Cx} {E : XK} {tg e : Expr} {pos : Pos} {ma : ME} {t : Tg} (he : PE X e (U X.K X.mw E ma)) (hg : PG X tg (UG X.K X.mw t)) (hs : swapsWithSole [tg] e pos.line X.env = pure false := by rfl) (hw : swappedStores [tg] e X.env = pure none := by rfl)
    (h1 : (assignEach [tg] X.env).map (·.2) = [assign tg X.env] := by rfl) : PS X (.Assign [tg] e pos) (US X.K X.mw E (sAsg t ma)) :=
  PS.imp (ps_asg he hg hs hw h1) fun D σ H ⟨Hd, es, eh, xc, d, R, xo, m, k1, k2, k3, k4⟩ => ⟨Hd, es, eh, xc, _, R, xo, m, fun eh1 H1 x v s1 R1 r1 ⟨es', e, m1⟩ =>
    ⟨Hd, es, eh1, x, es', R.step s1 R1, r1, e, fun σ' R' _ _ => k1 es' eh1 σ' H1 s1 R' m1⟩⟩

/-! ### what is walked -/
abbrev MI := XC → Es → Eh → (List EV → (Eh → Prop) → Eh → Prop) → Prop
structure JOk (K : PySem.W.Frag) (mg : MW) (Hd : Addr → Prop) (eh0 : Eh) (H0 : Hp) (J : It) (xs : List EV) (ok : Eh → Prop) : Prop where
  stop : ∀ i Hd' eh H, (∀ a, Hd' a → Hd a ∨ H0 a = none) → StepW Hd' eh0 H0 eh H → Rh K mg Hd' eh H → ok eh → xs.length ≤ i → J.stop i H
  go : ∀ i Hd' eh H, (∀ a, Hd' a → Hd a ∨ H0 a = none) → StepW Hd' eh0 H0 eh H → Rh K mg Hd' eh H → ok eh → i < xs.length → J.go i H
  yld : ∀ i Hd' eh H v H', (∀ a, Hd' a → Hd a ∨ H0 a = none) → StepW Hd' eh0 H0 eh H → Rh K mg Hd' eh H → ok eh → i < xs.length → J.yld i H v H' → ∃ x, xs[i]? = some x ∧ Step eh H eh H' ∧ Rh K mg Hd' eh H' ∧ Rp K mg Hd' eh H' x v ∧ (∀ a o, H a = some o → H' a = some o)
def UI (K : PySem.W.Frag) (mg : MW) (E : XK) (m : MI) : TI := fun σ H R => ∃ Hd es eh xc q, Rl K mg Hd eh H es σ ∧ XOk K mg E Hd eh H xc ∧ m xc es eh q ∧
  ∀ eh' H' xs ok J, Step eh H eh' H' → Rh K mg Hd eh' H' → JOk K mg Hd eh' H' J xs ok → q xs ok eh' → R J H'
theorem PI.imp {X : Cx} {tg e : Expr} {t t' : TI} (h : PI X tg e t) (i : ∀ σ H Q, t' σ H Q → t σ H Q) : PI X tg e t' := ⟨fun pins s σ H Q I w => h.run pins s σ H Q I (i σ H Q w)⟩
/-- what a value is walked by: its items, what must stay -/
def walkE (eh : Eh) : EV → Option (List EV × (Eh → Prop))
  | .tup xs => some (xs, fun _ => True)
  | .lst xs => some (xs, fun _ => True)
  | .scr ns => some (ns.map .int, fun _ => True)
  | .str x => some (x.cps.toList.map fun c => .str ⟨#[c]⟩, fun _ => True)
  | .dct kvs => some (kvs.map fun p => (match p.1 with | .inl i => .int i | .inr s => .str s), fun _ => True)
  | .ref a => match eh a with | some (.lst xs) => some (xs, fun h => h a = some (.lst xs)) | _ => none
  | _ => none
def iAny (m : ME) : MI := fun xc es eh q => m xc es eh fun x eh1 => ∃ xs ok, walkE eh1 x = some (xs, ok) ∧ q xs ok eh1
def tAnyI (K : PySem.W.Frag) (t : TE) : TI := fun σ H R => t σ H fun x H1 => (∃ a, x = .ref a ∧ (∃ xs, SqL K H1 a xs) ∧ R (Itl K a) H1) ∨ (∃ a, x = .ref a ∧ (∃ xs, SqT K H1 a xs) ∧ R (Itt K a) H1) ∨
  (∃ z, x = .str z ∧ R (Its z) H1) ∨ (∃ d o kvs, x = .ref d ∧ H1 d = some (.frz o (.dK kvs)) ∧ R (Itk d o kvs) H1)
theorem pi_any {X : Cx} {tg l : Expr} {tl : TE} (hl : PE X l tl) : PI X tg l (tAnyI X.K tl) := by
  refine ⟨fun pins s σ H R I h => ?_⟩
  refine thn (hl.run pins s σ H _ I h) fun v s1 ⟨x, H1, I1, r1, q1⟩ => ?_
  rcases q1 with ⟨a, rfl, ⟨xs, hq⟩, q⟩ | ⟨a, rfl, ⟨xs, hq⟩, q⟩ | ⟨z, rfl, q⟩ | ⟨d, o, kvs, rfl, hd, q⟩
  · cases r1
    obtain ⟨its, rv, p, hz⟩ := I1.list hq
    exact wpAny_pyIter_list p.isList (pi_one (tk := s1.toks) I1 _ (turn_list a _) ⟨_, Heap.get?_push_size _ rfl, rfl, rfl⟩ q)
  · cases r1
    obtain ⟨its, rv, p, hz⟩ := I1.tuple hq
    exact wpAny_pyIter_tuple (show s1.heap.IsTuple a its.toArray from p) (pi_one (tk := s1.toks) I1 _ (turn_tuple a _) ⟨_, Heap.get?_push_size _ rfl, rfl, rfl⟩ q)
  · obtain ⟨t, rfl⟩ := r1
    cases ha : z.cps.all (· < 128)
    · exact wpAny_pyIter_wide ha (pi_one (tk := s1.toks) I1 _ (turn_str _ z t "str_iterator" (.inr rfl)) ⟨_, Heap.get?_push_size _ rfl, rfl, rfl⟩ q)
    · exact wpAny_pyIter_ascii ha (pi_one (tk := s1.toks) I1 _ (turn_str _ z t "str_ascii_iterator" (.inl rfl)) ⟨_, Heap.get?_push_size _ rfl, rfl, rfl⟩ q)
  · cases r1
    obtain ⟨hs, hgd, hx, es, ep, vs, hdt, hsz, kv, hm⟩ := I1.frzK hd
    refine iter_keys hs hgd hx hdt (pi_one (tk := s1.toks) I1 _ (turn_keys _ hdt) ⟨_, Heap.get?_push_size _ rfl, rfl, ?_⟩ q)
    rw [hsz] <;> rfl
section
variable {K : PySem.W.Frag} {mg : MW} {Hd : Addr → Prop} {eh0 : Eh} {H0 : Hp}
/-- how a source is read through the walk -/
def Src (K : PySem.W.Frag) (mg : MW) (Hd : Addr → Prop) (eh0 : Eh) (H0 : Hp) (xs : List EV) (ok : Eh → Prop) (P : Hp → List V → Prop) : Prop :=
  ∀ Hd' eh H, (∀ a, Hd' a → Hd a ∨ H0 a = none) → StepW Hd' eh0 H0 eh H → Rh K mg Hd' eh H → ok eh → ∃ vs, P H vs ∧ RpL K mg Hd' eh H xs vs
theorem jok_list {a : Addr} {xs : List EV} {ok : Eh → Prop} (k : Src K mg Hd eh0 H0 xs ok (fun H vs => SqL K H a vs)) : JOk K mg Hd eh0 H0 (Itl K a) xs ok where
  stop := fun i Hd' eh H hh s R o hi => by
    obtain ⟨vs, q, r⟩ := k Hd' eh H hh s R o
    exact ⟨vs, q, by rw [← r.length]; exact hi⟩
  go := fun i Hd' eh H hh s R o hi => by
    obtain ⟨vs, q, r⟩ := k Hd' eh H hh s R o
    obtain ⟨v, hv, _⟩ := r.get (List.getElem?_eq_getElem hi)
    exact ⟨vs, v, q, hv⟩
  yld := fun i Hd' eh H v H' hh s R o hi ⟨e, y⟩ => by
    subst e
    obtain ⟨vs, q, r⟩ := k Hd' eh H' hh s R o
    obtain ⟨x, hx, rp⟩ := r.get' (y vs q)
    exact ⟨x, hx, .refl, R, rp, fun _ _ z => z⟩
theorem jok_tup {a : Addr} {xs : List EV} {ok : Eh → Prop} (k : Src K mg Hd eh0 H0 xs ok (fun H vs => SqT K H a vs)) : JOk K mg Hd eh0 H0 (Itt K a) xs ok where
  stop := fun i Hd' eh H hh s R o hi => by
    obtain ⟨vs, q, r⟩ := k Hd' eh H hh s R o
    exact ⟨vs, q, by rw [← r.length]; exact hi⟩
  go := fun i Hd' eh H hh s R o hi => by
    obtain ⟨vs, q, r⟩ := k Hd' eh H hh s R o
    obtain ⟨v, hv, _⟩ := r.get (List.getElem?_eq_getElem hi)
    exact ⟨vs, v, q, hv⟩
  yld := fun i Hd' eh H v H' hh s R o hi ⟨e, y⟩ => by
    subst e
    obtain ⟨vs, q, r⟩ := k Hd' eh H' hh s R o
    obtain ⟨x, hx, rp⟩ := r.get' (y vs q)
    exact ⟨x, hx, .refl, R, rp, fun _ _ z => z⟩
theorem jok_rng {lo : Int} {n : Nat} : JOk K mg Hd eh0 H0 (Itr lo n) ((List.range n).map fun (i : Nat) => .int (lo + (i : Int))) (fun _ => True) where
  stop := fun i Hd' eh H hh s R o hi => by
    show n ≤ i
    simpa using hi
  go := fun i Hd' eh H hh s R o hi => by
    show i < n
    simpa using hi
  yld := fun i Hd' eh H v H' hh s R o hi ⟨e, y⟩ => by
    subst e; subst y
    exact ⟨.int (lo + i), by have h : i < n := by simpa using hi
                             simp [List.getElem?_map, List.getElem?_range h], .refl, R, rfl, fun _ _ z => z⟩
theorem jok_str {z : Str} : JOk K mg Hd eh0 H0 (Its z) (z.cps.toList.map fun c => .str ⟨#[c]⟩) (fun _ => True) where
  stop := fun i Hd' eh H hh s R o hi => by
    show z.cps.size ≤ i
    simpa using hi
  go := fun i Hd' eh H hh s R o hi => by
    show i < z.cps.size
    simpa using hi
  yld := fun i Hd' eh H v H' hh s R o hi ⟨e, c, y, w⟩ => by
    subst e; subst w
    exact ⟨.str ⟨#[c]⟩, by simp [y], .refl, R, rfl, fun _ _ z => z⟩
def keyV : Key → EV
  | .inl i => .int i
  | .inr s => .str s
theorem keyV_rp {eh : Eh} {H : Hp} (k : Key) : Rp K mg Hd eh H (keyV k) (kV k) := by cases k <;> exact rfl
theorem jok_keys {d : Addr} {o : Obj} {kvs : List (Key × EV)} {us : List (Key × V)} (e : H0 d = some (.frz o (.dK us))) (r : RpK K mg Hd eh0 H0 kvs us) : JOk K mg Hd eh0 H0 (Itk d o us) (kvs.map fun p => keyV p.1) (fun _ => True) where
  stop := fun i Hd' eh H hh s R o hi => ⟨s.frz _ _ _ e, by rw [← r.length]; simpa using hi⟩
  go := fun i Hd' eh H hh s R o hi => ⟨s.frz _ _ _ e, by rw [← r.length]; simpa using hi⟩
  yld := fun i Hd' eh H v H' hh s R o hi ⟨e, k, w, y, z⟩ => by
    subst e; subst z
    obtain ⟨x, hx, _⟩ := r.get' y
    exact ⟨keyV k, by simp [hx], .refl, R, keyV_rp k, fun _ _ z => z⟩
theorem jok_items {d : Addr} {o : Obj} {kvs : List (Key × EV)} {us : List (Key × V)} (e : H0 d = some (.frz o (.dK us))) (r : RpK K mg Hd eh0 H0 kvs us) : JOk K mg Hd eh0 H0 (Iti d o us) (kvs.map fun p => .tup [keyV p.1, p.2]) (fun _ => True) where
  stop := fun i Hd' eh H hh s R o hi => ⟨s.frz _ _ _ e, by rw [← r.length]; simpa using hi⟩
  go := fun i Hd' eh H hh s R o hi => ⟨s.frz _ _ _ e, by rw [← r.length]; simpa using hi⟩
  yld := fun i Hd' eh H v H' hh s R o hi ⟨T, k, w, y, z, n, e⟩ => by
    subst e; subst z
    obtain ⟨x, hx, rx⟩ := r.get' y
    exact ⟨.tup [keyV k, x], by simp [hx], .newF n, R.newF n, ⟨T, _, rfl, .inl (.inl upd_same), .cons (keyV_rp k) (.one (((rx.hid hh).stepW s).step (.newF n)))⟩, fun a o q => by rw [upd_ne (ne_of_none q n)]; exact q⟩
theorem jok_enum {a : Addr} {xs : List EV} {ok : Eh → Prop} (k : Src K mg Hd eh0 H0 xs ok (fun H vs => SqL K H a vs)) : JOk K mg Hd eh0 H0 (Ite K a) (xs.mapIdx fun i x => .tup [.int (i : Nat), x]) ok where
  stop := fun i Hd' eh H hh s R o hi => by
    obtain ⟨vs, q, r⟩ := k Hd' eh H hh s R o
    exact ⟨vs, q, by rw [← r.length]; simpa using hi⟩
  go := fun i Hd' eh H hh s R o hi => by
    obtain ⟨vs, q, r⟩ := k Hd' eh H hh s R o
    obtain ⟨v, hv, _⟩ := r.get (List.getElem?_eq_getElem (by simpa using hi))
    exact ⟨vs, v, q, hv⟩
  yld := fun i Hd' eh H v H' hh s R o hi ⟨T, w, e, n, e', y⟩ => by
    subst e; subst e'
    obtain ⟨vs, q, r⟩ := k Hd' eh H hh s R o
    obtain ⟨x, hx, rp⟩ := r.get' (y vs q)
    exact ⟨.tup [.int (i : Nat), x], by simp [hx], .newF n, R.newF n, ⟨T, _, rfl, .inl (.inl upd_same), .cons rfl (.one (rp.step (.newF n)))⟩, fun a o q => by rw [upd_ne (ne_of_none q n)]; exact q⟩
theorem zip_get {α β : Type} {xs : List α} {ys : List β} {i : Nat} {x : α} {y : β} (h1 : xs[i]? = some x) (h2 : ys[i]? = some y) : (xs.zip ys)[i]? = some (x, y) := by
  rw [List.getElem?_zip_eq_some]; exact ⟨h1, h2⟩
theorem jok_zip {a b : Addr} {xs ys : List EV} {ok ok' : Eh → Prop} (k : Src K mg Hd eh0 H0 xs ok (fun H vs => SqL K H a vs)) (k' : Src K mg Hd eh0 H0 ys ok' (fun H vs => SqL K H b vs)) : JOk K mg Hd eh0 H0 (Itz K a b) ((xs.zip ys).map fun p => .tup [p.1, p.2]) (fun h => ok h ∧ ok' h) where
  stop := fun i Hd' eh H hh s R o hi => by
    obtain ⟨vs, q, r⟩ := k Hd' eh H hh s R o.1
    obtain ⟨us, q', r'⟩ := k' Hd' eh H hh s R o.2
    refine ⟨vs, us, q, q', ?_⟩
    rw [← r.length, ← r'.length]
    simp at hi; omega
  go := fun i Hd' eh H hh s R o hi => by
    obtain ⟨vs, q, r⟩ := k Hd' eh H hh s R o.1
    obtain ⟨us, q', r'⟩ := k' Hd' eh H hh s R o.2
    have hi' : i < xs.length ∧ i < ys.length := by simp at hi; omega
    obtain ⟨v, hv, _⟩ := r.get (List.getElem?_eq_getElem hi'.1)
    obtain ⟨u, hu, _⟩ := r'.get (List.getElem?_eq_getElem hi'.2)
    exact ⟨vs, us, v, u, q, q', hv, hu⟩
  yld := fun i Hd' eh H v H' hh s R o hi ⟨T, x, y, e, n, e', hx, hy⟩ => by
    subst e; subst e'
    obtain ⟨vs, q, r⟩ := k Hd' eh H hh s R o.1
    obtain ⟨us, q', r'⟩ := k' Hd' eh H hh s R o.2
    obtain ⟨x', hx', rx⟩ := r.get' (hx vs q)
    obtain ⟨y', hy', ry⟩ := r'.get' (hy us q')
    exact ⟨.tup [x', y'], by rw [List.getElem?_map, zip_get hx' hy']; rfl, .newF n, R.newF n, ⟨T, _, rfl, .inl (.inl upd_same), .cons (rx.step (.newF n)) (.one (ry.step (.newF n)))⟩, fun a o q => by rw [upd_ne (ne_of_none q n)]; exact q⟩
theorem jok_zipT {a b : Addr} {xs ys : List EV} {ok ok' : Eh → Prop} (k : Src K mg Hd eh0 H0 xs ok (fun H vs => SqT K H a vs)) (k' : Src K mg Hd eh0 H0 ys ok' (fun H vs => SqT K H b vs)) : JOk K mg Hd eh0 H0 (RZ.ItzT K a b) ((xs.zip ys).map fun p => .tup [p.1, p.2]) (fun h => ok h ∧ ok' h) where
  stop := fun i Hd' eh H hh s R o hi => by
    obtain ⟨vs, q, r⟩ := k Hd' eh H hh s R o.1
    obtain ⟨us, q', r'⟩ := k' Hd' eh H hh s R o.2
    refine ⟨vs, us, q, q', ?_⟩
    rw [← r.length, ← r'.length]
    simp at hi; omega
  go := fun i Hd' eh H hh s R o hi => by
    obtain ⟨vs, q, r⟩ := k Hd' eh H hh s R o.1
    obtain ⟨us, q', r'⟩ := k' Hd' eh H hh s R o.2
    have hi' : i < xs.length ∧ i < ys.length := by simp at hi; omega
    obtain ⟨v, hv, _⟩ := r.get (List.getElem?_eq_getElem hi'.1)
    obtain ⟨u, hu, _⟩ := r'.get (List.getElem?_eq_getElem hi'.2)
    exact ⟨vs, us, v, u, q, q', hv, hu⟩
  yld := fun i Hd' eh H v H' hh s R o hi ⟨T, x, y, e, n, e', hx, hy⟩ => by
    subst e; subst e'
    obtain ⟨vs, q, r⟩ := k Hd' eh H hh s R o.1
    obtain ⟨us, q', r'⟩ := k' Hd' eh H hh s R o.2
    obtain ⟨x', hx', rx⟩ := r.get' (hx vs q)
    obtain ⟨y', hy', ry⟩ := r'.get' (hy us q')
    exact ⟨.tup [x', y'], by rw [List.getElem?_map, zip_get hx' hy']; rfl, .newF n, R.newF n, ⟨T, _, rfl, .inl (.inl upd_same), .cons (rx.step (.newF n)) (.one (ry.step (.newF n)))⟩, fun a o q => by rw [upd_ne (ne_of_none q n)]; exact q⟩
/-- a list's source, frozen or explicit -/
def srcL (eh : Eh) : EV → Option (List EV × (Eh → Prop))
  | .lst xs => some (xs, fun _ => True)
  | .scr ns => some (ns.map .int, fun _ => True)
  | .ref a => match eh a with | some (.lst xs) => some (xs, fun h => h a = some (.lst xs)) | _ => none
  | _ => none
theorem srcL_of (R : Rh K mg Hd eh0 H0) {x : EV} {v : V} {xs : List EV} {ok : Eh → Prop} (r : Rp K mg Hd eh0 H0 x v) (e : srcL eh0 x = some (xs, ok)) :
    ∃ a, v = .ref a ∧ (∃ vs, SqL K H0 a vs) ∧ ok eh0 ∧ Src K mg Hd eh0 H0 xs ok (fun H vs => SqL K H a vs) := by
  cases x with
  | lst ys =>
    cases e
    obtain ⟨a, vs, rfl, h, n, t⟩ := r
    exact ⟨a, rfl, ⟨vs, .inl (.inl h)⟩, trivial, fun Hd' eh H hh s R' _ => ⟨vs, .inl (.inl (s.st _ _ h n.1 (fun _ z => nomatch z) (hid_ok (eh := eh0) hh h n.2)).1), (t.hid hh).stepW s⟩⟩
  | scr ns =>
    cases e
    obtain ⟨a, rfl, h⟩ := r
    exact ⟨a, rfl, ⟨_, h.sq⟩, trivial, fun Hd' eh H hh s R' _ => by
      obtain ⟨b, e, h'⟩ := Rp.stepW s (K := K) (x := .scr ns) (v := .ref a) (mg := mg) (Rp.hid hh (mg := mg) (x := .scr ns) (v := .ref a) ⟨a, rfl, h⟩)
      cases e
      exact ⟨_, h'.sq, RpL.of_ints ns⟩⟩
  | ref a =>
    cases r
    simp only [srcL] at e
    cases h : eh0 a with
    | none => rw [h] at e; cases e
    | some o =>
      rw [h] at e
      cases o with
      | lst ys =>
        cases e
        obtain ⟨vs, hv, t⟩ := R.ob a _ h
        refine ⟨a, rfl, ⟨vs, .inl (.inl hv)⟩, h, fun Hd' eh H hh s R' o => ?_⟩
        obtain ⟨vs, hv, t⟩ := R'.ob a _ o
        exact ⟨vs, .inl (.inl hv), t⟩
      | _ => cases e
  | _ => cases e
def srcT : EV → Option (List EV)
  | .tup xs => some xs
  | _ => none
theorem srcT_of {x : EV} {v : V} {xs : List EV} (r : Rp K mg Hd eh0 H0 x v) (e : srcT x = some xs) :
    ∃ a, v = .ref a ∧ (∃ vs, SqT K H0 a vs) ∧ Src K mg Hd eh0 H0 xs (fun _ => True) (fun H vs => SqT K H a vs) := by
  cases x with
  | tup ys =>
    cases e
    obtain ⟨a, vs, rfl, h, t⟩ := r
    exact ⟨a, rfl, ⟨vs, h⟩, fun Hd' eh H hh s R' _ => ⟨vs, SqT.stepW s h, (t.hid hh).stepW s⟩⟩
  | _ => cases e
end
section
variable {X : Cx} {E : XK} {tg e e2 : Expr} {ma mb : ME} {pos p : Pos}
theorem ri_any (h : PE X e (U X.K X.mw E ma)) : PI X tg e (UI X.K X.mw E (iAny ma)) :=
  PI.imp (pi_any h) fun σ H R ⟨Hd, es, eh, xc, q, Rl, xo, m, k⟩ => ⟨Hd, es, eh, xc, _, Rl, xo, m, fun eh1 H1 x v s1 R1 r1 ⟨xs, ok, ew, m1⟩ => by
    cases x with
    | tup ys =>
      cases ew
      obtain ⟨a, rfl, vs, src⟩ := srcT_of r1 rfl
      exact .inr (.inl ⟨a, rfl, vs, k eh1 H1 _ _ _ s1 R1 (jok_tup src) m1⟩)
    | lst ys =>
      cases ew
      obtain ⟨a, rfl, vs, o, src⟩ := srcL_of R1 r1 rfl
      exact .inl ⟨a, rfl, vs, k eh1 H1 _ _ _ s1 R1 (jok_list src) m1⟩
    | scr ns =>
      cases ew
      obtain ⟨a, rfl, vs, o, src⟩ := srcL_of R1 r1 rfl
      exact .inl ⟨a, rfl, vs, k eh1 H1 _ _ _ s1 R1 (jok_list src) m1⟩
    | str z =>
      cases ew
      cases r1
      exact .inr (.inr (.inl ⟨z, rfl, k eh1 H1 _ _ _ s1 R1 jok_str m1⟩))
    | dct kvs =>
      cases ew
      obtain ⟨a, o, us, rfl, h, t⟩ := r1
      exact .inr (.inr (.inr ⟨a, o, us, rfl, h, k eh1 H1 _ _ _ s1 R1 (jok_keys h t) m1⟩))
    | ref a =>
      simp only [walkE] at ew
      cases h : eh1 a with
      | none => rw [h] at ew; cases ew
      | some o =>
        rw [h] at ew
        cases o with
        | lst ys =>
          cases ew
          obtain ⟨b, rfl, vs, o, src⟩ := srcL_of R1 r1 (xs := xs) (ok := fun h => h a = some (.lst xs)) (by simp only [srcL, h])
          exact .inl ⟨b, rfl, vs, k eh1 H1 _ _ _ s1 R1 (jok_list src) m1⟩
        | _ => cases ew
    | _ => cases ew⟩
def iRange1 (t : MA) : MI := fun xc es eh q => t xc es eh fun xs eh1 => match xs with
  | [.int j] => (-(2 ^ 62) ≤ j ∧ j < 2 ^ 62) ∧ q ((List.range j.toNat).map fun (i : Nat) => .int (i : Int)) (fun _ => True) eh1
  | _ => False
theorem ri_range1 {mt : MA} (hg : Gl X "range") (hm : X.mg "range" = none) (ha : PA X [e] (UA X.K X.mw E mt)) (hs : starEach [e] X.env = [(false, eval e X.env)] := by rfl) : PI X tg (.Call (.Name "range" p) [e] [] pos) (UI X.K X.mw E (iRange1 mt)) :=
  PI.imp (pi_range1 hg hm ha hs) fun σ H R ⟨Hd, es, eh, xc, q, Rl, xo, m, k⟩ => ⟨Hd, es, eh, xc, _, Rl, xo, m, fun eh1 H1 xs vs s1 R1 r1 m1 => by
    split at m1
    · rename_i j
      obtain ⟨v, r, rfl, rv, rr⟩ := r1
      cases rv; cases rr
      refine ⟨j, rfl, m1.1.1, m1.1.2, k eh1 H1 _ _ _ s1 R1 jok_rng (by simpa using m1.2)⟩
    · exact m1.elim⟩
def iEnumM (t : MA) : MI := fun xc es eh q => t xc es eh fun xs eh1 => match xs with
  | [x] => ∃ ys ok, srcL eh1 x = some (ys, ok) ∧ q (ys.mapIdx fun i x => .tup [.int (i : Nat), x]) ok eh1
  | _ => False
theorem ri_enum {mt : MA} {elts : List Expr} {kk : Nat} {tpos : Pos} (hg : Gl X "enumerate") (hm : X.mg "enumerate" = none) (ha : PA X [e] (UA X.K X.mw E mt)) (hs : starEach [e] X.env = [(false, eval e X.env)] := by rfl) :
    PI X (.Tuple elts kk tpos) (.Call (.Name "enumerate" p) [e] [] pos) (UI X.K X.mw E (iEnumM mt)) :=
  PI.imp (pi_enum hg hm ha hs) fun σ H R ⟨Hd, es, eh, xc, q, Rl, xo, m, k⟩ => ⟨Hd, es, eh, xc, _, Rl, xo, m, fun eh1 H1 xs vs s1 R1 r1 m1 => by
    split at m1
    · obtain ⟨ys, ok, ey, m1⟩ := m1
      obtain ⟨v, r, rfl, rv, rr⟩ := r1
      cases rr
      obtain ⟨a, rfl, ⟨us, hu⟩, o, src⟩ := srcL_of R1 rv ey
      exact ⟨a, us, rfl, hu, k eh1 H1 _ _ _ s1 R1 (jok_enum src) m1⟩
    · exact m1.elim⟩
def iZipM (t : MA) : MI := fun xc es eh q => t xc es eh fun xs eh1 => match xs with
  | [x, y] => (∃ xs ys, srcT x = some xs ∧ srcT y = some ys ∧ q ((xs.zip ys).map fun p => .tup [p.1, p.2]) (fun _ => True) eh1) ∨
      ∃ xs ys ok ok', srcL eh1 x = some (xs, ok) ∧ srcL eh1 y = some (ys, ok') ∧ q ((xs.zip ys).map fun p => .tup [p.1, p.2]) (fun h => ok h ∧ ok' h) eh1
  | _ => False
theorem JOk.tt {K mg Hd eh0 H0 J xs} (h : JOk K mg Hd eh0 H0 J xs (fun _ => True ∧ True)) : JOk K mg Hd eh0 H0 J xs (fun _ => True) :=
  ⟨fun i Hd' eh H a b c _ => h.stop i Hd' eh H a b c ⟨trivial, trivial⟩, fun i Hd' eh H a b c _ => h.go i Hd' eh H a b c ⟨trivial, trivial⟩, fun i Hd' eh H v H' a b c _ => h.yld i Hd' eh H v H' a b c ⟨trivial, trivial⟩⟩
theorem ri_zip {mt : MA} {elts : List Expr} {kk : Nat} {tpos : Pos} (hg : Gl X "zip") (hm : X.mg "zip" = none) (ha : PA X [e, e2] (UA X.K X.mw E mt))
    (hs : starEach [e, e2] X.env = (false, eval e X.env) :: starEach [e2] X.env := by rfl) (hpl : (backTo pos (starEach [e2] X.env)).any (·.1) = false := by rfl) :
    PI X (.Tuple elts kk tpos) (.Call (.Name "zip" p) [e, e2] [] pos) (UI X.K X.mw E (iZipM mt)) :=
  PI.imp (RZ.pi_zipA hg hm ha hs hpl) fun σ H R ⟨Hd, es, eh, xc, q, Rl, xo, m, k⟩ => ⟨Hd, es, eh, xc, _, Rl, xo, m, fun eh1 H1 xs vs s1 R1 r1 m1 => by
    split at m1
    · obtain ⟨v, r, rfl, rv, v', r', rfl, rv', rr⟩ := r1
      cases rr
      rcases m1 with ⟨xs, ys, ex, ey, m1⟩ | ⟨xs, ys, ok, ok', ex, ey, m1⟩
      · obtain ⟨a, rfl, ⟨us, hu⟩, src⟩ := srcT_of rv ex
        obtain ⟨b, rfl, ⟨ws, hw⟩, src'⟩ := srcT_of rv' ey
        exact ⟨a, b, us, ws, rfl, .inr ⟨hu, hw, k eh1 H1 _ _ _ s1 R1 (jok_zipT src src').tt m1⟩⟩
      · obtain ⟨a, rfl, ⟨us, hu⟩, o, src⟩ := srcL_of R1 rv ex
        obtain ⟨b, rfl, ⟨ws, hw⟩, o', src'⟩ := srcL_of R1 rv' ey
        exact ⟨a, b, us, ws, rfl, .inl ⟨hu, hw, k eh1 H1 _ _ _ s1 R1 (jok_zip src src') m1⟩⟩
    · exact m1.elim⟩
def iItemsM (m : ME) : MI := fun xc es eh q => m xc es eh fun x eh1 => match x with
  | .dct kvs => q (kvs.map fun p => .tup [keyV p.1, p.2]) (fun _ => True) eh1
  | _ => False
theorem ri_items {elts : List Expr} {kk : Nat} {tpos apos cpos : Pos} (he : PE X e (U X.K X.mw E ma)) (hbase : attributeBase e "items" X.env (eval e X.env) = eval e X.env := by rfl) (hline : (apos.endLine == cpos.line) = true := by rfl) :
    PI X (.Tuple elts kk tpos) (.Call (.Attribute e "items" apos) [] [] cpos) (UI X.K X.mw E (iItemsM ma)) :=
  PI.imp (pi_items he hbase hline) fun σ H R ⟨Hd, es, eh, xc, q, Rl, xo, m, k⟩ => ⟨Hd, es, eh, xc, _, Rl, xo, m, fun eh1 H1 x v s1 R1 r1 m1 => by
    cases x with
    | dct kvs =>
      obtain ⟨a, o, us, rfl, h, t⟩ := r1
      exact ⟨a, o, us, rfl, h, k eh1 H1 _ _ _ s1 R1 (jok_items h t) m1⟩
    | _ => exact m1.elim⟩
end

/-! ### for, while -/
def forL (g : Tg) (b : MS) (ok : Eh → Prop) (xc : XC) (d : Dn) : List EV → Es → Eh → Prop
  | [], es, eh => ok eh ∧ d.nx es eh
  | x :: xs, es, eh => ok eh ∧ ∃ es', asg g x es = some es' ∧ b xc { d with nx := fun es1 eh1 => forL g b ok xc d xs es1 eh1, ct := fun es1 eh1 => forL g b ok xc d xs es1 eh1, bk := d.nx } es' eh
def sFor (mi : MI) (g : Tg) (b : MS) : MS := fun xc d es eh => mi xc es eh fun xs ok eh1 => forL g b ok xc d xs es eh1
def whileN (c : MT) (b : MS) (xc : XC) (d : Dn) : Nat → Es → Eh → Prop
  | 0, _, _ => False
  | n + 1, es, eh => c xc es eh fun t eh1 => match t with
    | true => b xc { d with nx := fun es1 eh1 => whileN c b xc d n es1 eh1, ct := fun es1 eh1 => whileN c b xc d n es1 eh1, bk := d.nx } es eh1
    | false => d.nx es eh1
def sWhile (c : MT) (b : MS) : MS := fun xc d es eh => ∃ n, whileN c b xc d n es eh
theorem drop_cons {α : Type} {xs : List α} {i : Nat} {x : α} {r : List α} (h : xs.drop i = x :: r) : xs[i]? = some x ∧ xs.drop (i + 1) = r ∧ i < xs.length := by
  have hl : i < xs.length := by
    rcases Nat.lt_or_ge i xs.length with z | z
    · exact z
    · rw [List.drop_eq_nil_of_le z] at h; cases h
  rw [List.drop_eq_getElem_cons hl] at h
  cases h
  exact ⟨List.getElem?_eq_getElem hl, rfl, hl⟩
section
variable {X : Cx} {E : XK} {tg iter c : Expr} {body : List Stmt} {mi : MI} {g : Tg} {ms : MS} {mt : MT} {pos : Pos}
theorem rs_for (hp : PassesOwn (model X.prog X.w) X.A X.env X.xe) (hc : X.calm = true) (hi : PI X tg iter (UI X.K X.mw E mi)) (hg : PG X tg (UG X.K X.mw g)) (hb : PSs X body (US X.K X.mw E ms))
    (hs : ∀ x, foldedSetIterable iter X.env x = pure x := by intro _; rfl) : PS X (.For tg iter body [] pos) (US X.K X.mw E (sFor mi g ms)) :=
  PS.imp (ps_for hp hc hi hg hb hs) fun D σ H ⟨Hd, es, eh, xc, d, R, xo, m, k1, k2, k3, k4⟩ => ⟨Hd, es, eh, xc, _, R, xo, m, fun ehA HA xs ok J sA RA jo mA => by
    refine ⟨fun i n σ H => ∃ es eh, i + n = xs.length ∧ Step ehA HA eh H ∧ Rl X.K X.mw Hd eh H es σ ∧ forL g ms ok xc d (xs.drop i) es eh, ⟨xs.length, es, ehA, by omega, .refl, R.step sA RA, mA⟩, ?_⟩
    rintro i n σ H ⟨es, eh, hn, s1, R1, f⟩
    cases hd : xs.drop i with
    | nil =>
      rw [hd] at f
      have : xs.length ≤ i := by simpa using hd
      exact .inl ⟨jo.stop i Hd eh H (fun _ z => .inl z) s1.w R1.obj f.1 this, k1 es eh σ H (sA.trans s1) R1 f.2⟩
    | cons x r =>
      rw [hd] at f
      obtain ⟨hx, hr, hl⟩ := drop_cons hd
      obtain ⟨o, es', ea, f⟩ := f
      refine .inr ⟨jo.go i Hd eh H (fun _ z => .inl z) s1.w R1.obj o hl, fun σ' H' => ∃ es eh, (i + 1) + (n - 1) = xs.length ∧ Step ehA HA eh H' ∧ Rl X.K X.mw Hd eh H' es σ' ∧ forL g ms ok xc d (xs.drop (i + 1)) es eh,
        fun σ' H' w => ⟨n - 1, by omega, w⟩, fun v H2 y => ?_⟩
      obtain ⟨x', hx', s2, R2, r2, _⟩ := jo.yld i Hd eh H v H2 (fun _ z => .inl z) s1.w R1.obj o hl y
      rw [hx] at hx'; cases hx'
      refine ⟨Hd, es, eh, x, es', R1.step s2 R2, r2, ea, fun σ3 R3 _ _ => ⟨Hd, es', eh, xc, _, R3, ((xo.step sA).step s1).step s2, f, ?_, ?_, ?_, ?_⟩⟩
      · intro es4 eh4 σ4 H4 s4 R4 f4
        exact ⟨es4, eh4, by omega, s1.trans (s2.trans s4), R4, by rw [hr]; exact f4⟩
      · exact fun eh4 H4 x v s4 R4 r4 => k2 eh4 H4 x v (sA.trans (s1.trans (s2.trans s4))) R4 r4
      · exact fun es4 eh4 σ4 H4 s4 R4 => k1 es4 eh4 σ4 H4 (sA.trans (s1.trans (s2.trans s4))) R4
      · intro es4 eh4 σ4 H4 s4 R4 f4
        exact ⟨es4, eh4, by omega, s1.trans (s2.trans s4), R4, by rw [hr]; exact f4⟩⟩
theorem rs_while (hp : PassesOwn (model X.prog X.w) X.A X.env X.xe) (hc : PT X c (UT X.K X.mw E mt)) (hb : PSs X body (US X.K X.mw E ms)) : PS X (.While c body [] pos) (US X.K X.mw E (sWhile mt ms)) :=
  PS.imp (ps_while hp hc hb) fun D σ H ⟨Hd, es, eh, xc, d, R, xo, ⟨n, m⟩, k1, k2, k3, k4⟩ => by
    refine ⟨fun n σ' H' => ∃ es eh', Step eh H eh' H' ∧ Rl X.K X.mw Hd eh' H' es σ' ∧ whileN mt ms xc d n es eh', ⟨n, es, eh, .refl, R, m⟩, ?_⟩
    rintro n σ1 H1 ⟨es1, eh1, s1, R1, w⟩
    cases n with
    | zero => exact w.elim
    | succ n =>
      refine ⟨Hd, es1, eh1, xc, _, R1, xo.step s1, w, fun eh2 H2 b s2 R2 w2 => ?_⟩
      cases b with
      | false => exact iteF (k1 es1 eh2 σ1 H2 (s1.trans s2) (R1.step s2 R2) w2)
      | true =>
        refine iteT ⟨fun σ' H' => ∃ es eh', Step eh H eh' H' ∧ Rl X.K X.mw Hd eh' H' es σ' ∧ whileN mt ms xc d n es eh', fun σ' H' w => ⟨n, Nat.lt_succ_self n, w⟩, Hd, es1, eh2, xc, _, R1.step s2 R2, (xo.step s1).step s2, w2, ?_, ?_, ?_, ?_⟩
        · exact fun es4 eh4 σ4 H4 s4 R4 f4 => ⟨es4, eh4, s1.trans (s2.trans s4), R4, f4⟩
        · exact fun eh4 H4 x v s4 R4 r4 => k2 eh4 H4 x v (s1.trans (s2.trans s4)) R4 r4
        · exact fun es4 eh4 σ4 H4 s4 R4 => k1 es4 eh4 σ4 H4 (s1.trans (s2.trans s4)) R4
        · exact fun es4 eh4 σ4 H4 s4 R4 f4 => ⟨es4, eh4, s1.trans (s2.trans s4), R4, f4⟩
end
end VM

/-! VMG: promises of defs that are called while no repr is under way (guards = some []): FnG in the place of the kit's FnOk, RoomG in the place of Room. -/
namespace VM
open PySem PySem.Spec PyProof.Rows L2
theorem Passes.at {CX : CXT} {X : Cx} {E : XK} (h : Passes CX X E) : ∀ σ, PassesAt CX X σ E := fun σ pins H s e s' => h pins σ H s e s'
structure FnG (P : Program) (w : World) (K : PySem.W.Frag) (mg : Str → Option Value) (B : Heap) (CX : CXT) (k : Nat) (f : Addr) (fd : FuncData) (ps : List Str) (sp : Sp) : Prop where
  num : ∀ xs H Q E, sp xs H Q E → xs.length = ps.length
  go : ∀ {A : Around} {fr : List Env} {s : Shared} {H : Hp} {ar : Args} {as : List Value} {xs : List V} {Q : VK} {E : XK}, RoomG k A → Env0 P w K mg B A fr s H → BindsTo s fd ar (ps.zip as) → Vals xs as → sp xs H Q E →
    codeAny (model P w) A (.call (.ref f) ar) (CR CX fr P w H s Q E) s
theorem FnG.mono {P w K mg B CX i k f fd ps sp} (F : FnG P w K mg B CX i f fd ps sp) (l : i ≤ k) : FnG P w K mg B CX k f fd ps sp := ⟨F.num, fun r => F.go (r.mono l)⟩
section
variable {P : Program} {w : World} {K : PySem.W.Frag} {mg : Str → Option Value} {B : Heap} {CX : CXT} {k : Nat} {f : Addr} {fd : FuncData} {N ps : List Str} {sp : Sp} {z qual : Str} {params : Arguments} {body : List Stmt} {scope : Scope} {dvs : List V} {kws : List (Str × V)}
/-- by its body, which is read once for each entry -/
theorem FnG.of (D : FunD K z qual params body scope dvs kws f fd) (S : FnScope N ps scope) (num : ∀ xs H Q E, sp xs H Q E → xs.length = ps.length)
    (bd : ∀ (cd : Value) (A : Around) (fr : List Env) (s : Shared) (H : Hp) (xs : List V) (Q : VK) (E : XK), (∃ oc od osl, K.lookup f = some ⟨oc, od, .func fd, osl⟩ ∧ fd.code = cd ∧ PySem.W.codeIn K cd qual = true) → RoomG k (A.deeper (envOfC qual scope s.heap.objs.size f cd)) → sp xs H Q E →
      ∃ t, PSs (cxOf CX P w K mg B N qual scope f cd A fr s H E) body t ∧ t { nx := fun _ H' => Q .non H', rt := Q } (L2.start N xs) H) : FnG P w K mg B CX (k + 1) f fd ps sp := by
  obtain ⟨oc, od, dV, kV, doc, pm, an, cd, ct, osl, efd, lk, hc, _, _⟩ := D.ex
  constructor
  · exact num
  · intro A fr s H ar as xs Q E ro e0 hb rv hs
    have kp : ∀ b o, B.get? b = some o → s.heap.get? b = some o := fun b o e => (e0.bs b o e).1
    have kin : K.In s.heap := e0.mod.kin.keeps kp
    subst efd
    obtain ⟨t, ht, hq⟩ := bd cd A fr s H xs Q E ⟨oc, od, osl, lk, rfl, hc⟩ (ro.deeper _) hs
    have par : ∀ y ∈ ps.zip as, scope.names.lookup y.1 = some .local ∨ (scope.names.lookup y.1 = some .cell ∧ ((cellsFrom (s.heap.objs.size + 1) scope.names []).lookup y.1).isSome = true) := by
      rintro ⟨y, v⟩ hy
      cases S.par y (List.of_mem_zip hy).1 with
      | inl q => exact .inl q
      | inr q => exact .inr ⟨q, PySem.W.cellsFrom_some _ _ _ (.inl q)⟩
    apply codeAny_call_function ro.r.depth (kin f _ lk) rfl S.co S.gen rfl (PySem.W.codeRec_of kin hc)
    apply hb
    apply wpAny_newFunctionEnv_cells S.kind par
    intro env he s1 x
    subst he
    have start := inv_start (CX := CX) (P := P) (w := w) (K := K) (mg := mg) (base := B) (E := E) S ro.hd e0 (num _ _ _ _ hs) rv x
    refine ⟨(e0.mod.nolimit.keeps kp).keeps x.toInCall.keep, codeAny_func (wpAny_mono (ht.run [] s1 _ H _ start hq) ?_ fun _ _ h => h)⟩
    rintro (_ | _ | _ | u) s' h
    · obtain ⟨τ, H', J, q⟩ := h; exact ⟨.non, H', J.os, J.bare, J.base, J.hok, rfl, q⟩
    · obtain ⟨_, _, _, q⟩ := h; exact q.elim
    · obtain ⟨_, _, _, q⟩ := h; exact q.elim
    · obtain ⟨v, τ, H', J, r, q⟩ := h; exact ⟨v, H', J.os, J.bare, J.base, J.hok, r, q⟩
end
section
variable {X : Cx} {CX : CXT} {k : Nat} {f C : Addr} {fd : FuncData} {ps : List Str} {sp : Sp} {E : XK} {pins : List (Addr × Obj)} {σ : L2.St} {H : Hp} {s : Shared} {Q : VK} {as : List Value} {xs : List V} {kw : List (Str × Value)}
/-- what stands behind a call -/
theorem back_of (hx : PassesAt CX X σ E) (I : Inv X pins σ H s) : ∀ {r : Result} {s' : Shared}, CR CX X.stack X.prog X.w H s Q E r s' → (match r with | .ok (.ret u) => EP X pins σ Q u s' | .ok _ => False | .error e => X.xe e s')
  | .error e, s', h => hx pins H s e s' I h
  | .ok (.ret u), s', h => I.after h
  | .ok .next, s', h => h.elim
  | .ok .brk, s', h => h.elim
  | .ok .cont, s', h => h.elim
theorem FnG.here {bs : List Value} (F : FnG X.prog X.w X.K X.mg X.base CX k f fd ps sp) (ro : RoomG k X.A) (hx : PassesAt CX X σ E) (I : Inv X pins σ H s) (hb : BindsTo s fd ⟨as, kw⟩ (ps.zip bs)) (rv : Vals xs bs) (hs : sp xs H Q E) :
    wpAny (model X.prog X.w) X.A (call (.ref f) as kw) (EP X pins σ Q) X.xe s :=
  wpAny_call (codeAny_mono (F.go ro I.env0 hb rv hs) fun r s' h => by
    have q := back_of hx I h
    cases r with
    | error e => exact q
    | ok fl => cases fl <;> exact q)
/-- an instance made: __init__ runs at the new object -/
theorem FnG.made {M : Addr → List V} (mk : Mk X.K C f) (F : FnG X.prog X.w X.K X.mg X.base CX k f fd ps sp) (ro : RoomG (k + 1) X.A) (hx : PassesAt CX X σ E) (I : Inv X pins σ H s)
    (hb : ∀ t : Shared, X.K.In t.heap → ∃ bs, BindsTo t fd ⟨.ref (s.heap.objs.size + 1) :: as, kw⟩ (ps.zip bs) ∧ Vals (M (s.heap.objs.size + 1)) bs)
    (h : ∀ p q, H p = none → H q = none → q ≠ p → sp (M p) (upd (upd H q (.own p)) p (.ins C q [])) (fun v H2 => v = .non ∧ Q (.ref p) H2) E) :
    wpAny (model X.prog X.w) X.A (call (.ref C) as kw) (EP X pins σ Q) X.xe s := by
  have J := Inv.made (C := C) I
  have g := h (s.heap.objs.size + 1) s.heap.objs.size (I.hok.fresh (Nat.le_succ _)) (I.hok.fresh (Nat.le_refl _)) (Nat.ne_of_lt (Nat.lt_succ_self _))
  obtain ⟨bs, b1, b2⟩ := hb _ J.kIn
  apply wpAny_call
  refine make_map I.kIn mk.makes mk.init (beq_iff_eq.mp mk.fn) (codeAny_mono (F.go (ro.make C as kw) (J.env0.make C as kw) b1 b2 g) ?_)
  intro r s' hq
  have q := back_of hx J hq
  cases r with
  | error e => exact q
  | ok fl =>
    cases fl with
    | ret u => obtain ⟨v, H', L, rv, ⟨rfl, q3⟩⟩ := q; exact ⟨rv, .ref (s.heap.objs.size + 1), H', L, rfl, q3⟩
    | _ => exact q
end
section
variable {X : Cx} {CX : CXT} {k n : Nat} {f C : Addr} {fd : FuncData} {ps ks : List Str} {sp : Sp} {dvs : List V} {ds : List Value} {E : XK} {pins : List (Addr × Obj)} {σ : L2.St} {H : Hp} {s : Shared} {Q : VK} {as bs : List Value} {xs ys : List V} {x m : Str} {p pos apos : Pos} {o e : Expr} {es : List Expr} {ta : TE} {t tk : TA} {g : List Value → List Value → List Value} {gV : List V → List V → List V} {kws : List Keyword}
theorem FnG.pos_ (F : FnG X.prog X.w X.K X.mg X.base CX k f fd ps sp) (ro : RoomG k X.A) (hb : Binds X.K fd ps ds) (hd : Vals dvs ds) (hx : PassesAt CX X σ E) (I : Inv X pins σ H s) (r : Vals xs as) (h : sp (xs ++ dvs) H Q E) :
    wpAny (model X.prog X.w) X.A (call (.ref f) as) (EP X pins σ Q) X.xe s :=
  F.here ro hx I (hb s as I.kIn ((r.append hd).length ▸ F.num _ _ _ _ h)) (r.append hd) h
theorem FnG.kw_ (F : FnG X.prog X.w X.K X.mg X.base CX k f fd ps sp) (ro : RoomG k X.A) (hb : KBn X.K fd ps n ks g gV) (hx : PassesAt CX X σ E) (I : Inv X pins σ H s) (r : Vals xs as) (rk : Vals ys bs) (l1 : xs.length = n) (l2 : ys.length = ks.length) (h : sp (gV xs ys) H Q E) :
    wpAny (model X.prog X.w) X.A (call (.ref f) as (ks.zip bs)) (EP X pins σ Q) X.xe s :=
  F.here ro hx I (hb.to s as bs I.kIn (r.length ▸ l1) (rk.length ▸ l2)) (hb.rel r rk) h
end
section
variable {X : Cx} {CX : CXT} {k n : Nat} {f C : Addr} {fd : FuncData} {ps ks : List Str} {sp : Sp} {dvs : List V} {ds : List Value} {E : L2.St → XK} {pins : List (Addr × Obj)} {σ : L2.St} {H : Hp} {s : Shared} {Q : VK} {as bs : List Value} {xs ys : List V} {x m : Str} {p pos apos : Pos} {o e : Expr} {es : List Expr} {ta : TE} {t tk : TA} {g : List Value → List Value → List Value} {gV : List V → List V → List V} {kws : List Keyword}
theorem FnG.call_ (F : FnG X.prog X.w X.K X.mg X.base CX k f fd ps sp) (ro : RoomG k X.A) (hg : Gl X x) (hm : X.mg x = some (.ref f)) (hk : PySem.W.keepIn X.K (.ref f) = true) (hb : Binds X.K fd ps ds) (hd : Vals dvs ds) (hx : ∀ σ, PassesAt CX X σ (E σ))
    (ha : PA X (e :: es) t) (hdb : (x == ("__debug__" : Str)) = false) (he : starEach (e :: es) X.env = (false, eval e X.env) :: starEach es X.env) (hpl : (backTo pos (starEach es X.env)).any (·.1) = false) :
    PE X (.Call (.Name x p) (e :: es) [] pos) (fun σ H Q => tCall sp dvs (E σ) t σ H Q) := by
  constructor
  intro pins s σ H Q I h
  apply wpAny_Call_Name_kw
  apply ld_glob I hg hm _ hdb
  exact PySem.W.callWith_K (h₀ := X.base) I.ok.mod.kin hk (thn (ha.run pos pins s σ H _ I h) fun as s1 ⟨xs, H1, J, r, q⟩ => ⟨J.kIn, F.pos_ ro hb hd (hx σ) J r q⟩) he hpl
theorem FnG.callk0_ (F : FnG X.prog X.w X.K X.mg X.base CX k f fd ps sp) (ro : RoomG k X.A) (hg : Gl X x) (hm : X.mg x = some (.ref f)) (hk : PySem.W.keepIn X.K (.ref f) = true) (hb : KBn X.K fd ps 0 ks g gV) (hx : ∀ σ, PassesAt CX X σ (E σ))
    (hkw : PK X kws tk) (hall : (backToKw pos (keywordEach kws X.env)).all (·.1.isSome) = true) (hks : (backToKw pos (keywordEach kws X.env)).filterMap (·.1) = ks)
    (hdb : (x == ("__debug__" : Str)) = false) (hpl : ((backTo pos (starEach [] X.env)).any (·.1) || (backToKw pos (keywordEach kws X.env)).any (·.1.isNone)) = false) :
    PE X (.Call (.Name x p) [] kws pos) (fun σ H Q => tCallN 0 ks.length sp gV (E σ) tNil tk σ H Q) := by
  constructor
  intro pins s σ H Q I h
  apply wpAny_Call_Name_kw
  apply ld_glob I hg hm _ hdb
  refine PySem.W.callWith_KW0 (h₀ := X.base) I.ok.mod.kin hk hall (thn (hkw.run pos pins s σ H _ I h) fun bs s2 ⟨ys, H2, L, rk, l1, l2, q2⟩ => ⟨L.kIn, ?_⟩) hpl
  subst hks
  exact F.kw_ (as := []) ro hb (hx σ) L .nil rk l1 l2 q2
theorem FnG.make_ (mk : Mk X.K C f) (F : FnG X.prog X.w X.K X.mg X.base CX k f fd ps sp) (ro : RoomG (k + 1) X.A) (hg : Gl X x) (hm : X.mg x = some (.ref C)) (hb : Binds X.K fd ps ds) (hd : Vals dvs ds) (hx : ∀ σ, PassesAt CX X σ (E σ))
    (ha : PA X (e :: es) t) (hdb : (x == ("__debug__" : Str)) = false) (he : starEach (e :: es) X.env = (false, eval e X.env) :: starEach es X.env) (hpl : (backTo pos (starEach es X.env)).any (·.1) = false) :
    PE X (.Call (.Name x p) (e :: es) [] pos) (fun σ H Q => tMake C sp dvs (E σ) t σ H Q) := by
  constructor
  intro pins s σ H Q I h
  apply wpAny_Call_Name_kw
  apply ld_glob I hg hm _ hdb
  refine PySem.W.callWith_K (h₀ := X.base) I.ok.mod.kin mk.kp (thn (ha.run pos pins s σ H _ I h) fun as s1 ⟨xs, H1, J, r, q⟩ => ⟨J.kIn, ?_⟩) he hpl
  refine F.made (M := fun a => .ref a :: (xs ++ dvs)) mk ro (hx σ) J (fun t kt => ?_) q
  have rr : Vals (V.ref (s1.heap.objs.size + 1) :: (xs ++ dvs)) (Value.ref (s1.heap.objs.size + 1) :: (as ++ ds)) := .cons rfl (r.append hd)
  refine ⟨_, hb t (.ref (s1.heap.objs.size + 1) :: as) kt ?_, rr⟩
  exact rr.length.symm.trans (F.num _ _ _ _ (q (s1.heap.objs.size + 1) s1.heap.objs.size (J.hok.fresh (Nat.le_succ _)) (J.hok.fresh (Nat.le_refl _)) (Nat.ne_of_lt (Nat.lt_succ_self _))))
/-- a property's getter -/
theorem FnG.prop_ {pr : Addr} (ho : PE X e ta) (c : Cls X.K C) (hp : PropOf X.K C m pr f) (F : FnG X.prog X.w X.K X.mg X.base CX k f fd ps sp) (ro : RoomG (k + 1) X.A) (hb : Binds X.K fd ps ds) (hd : Vals dvs ds) (hx : ∀ σ, PassesAt CX X.nox σ (E σ))
    (hab : attributeBase e m X.env (eval e X.env) = eval e X.env) : PE X (.Attribute e m pos) (fun σ H Q => tProp C sp dvs (E σ) ta σ H Q) := by
  constructor
  intro pins s σ H Q I h
  refine attr_of hab (thn (ho.run pins s σ H _ I h) ?_)
  rintro v s1 ⟨y, H1, J, ry, a, q, fs, rfl, ea, h1⟩
  cases ry
  obtain ⟨mA, O, _, _, _, _⟩ := ins_get J.hok ea
  obtain ⟨od, at_, _⟩ := O.look
  obtain ⟨rest, hrec⟩ := hp.rec_
  have L := J.tok (s1.toks + 1)
  have hc : (PySem.W.clsIn X.K C).isSome = true := by obtain ⟨cd, hc, _⟩ := PySem.W.any_some c.hd; rw [hc]; rfl
  have len : ([Value.ref a] ++ ds).length = ps.length := by
    have z := F.num _ _ _ _ h1
    rw [← z, List.length_append, List.length_cons, ← hd.length]
    exact Nat.add_comm _ _
  refine PySem.W.get_bind J.kIn at_ (PySem.W.plainGet_of (c.get m)).1 (PySem.W.findObj_data hc hp.at_ hp.get hp.tak) (PySem.W.plainGet_of (c.get m)).2 ?_
  refine wpAny_call (PySem.W.prop_get (s := { s1 with toks := s1.toks + 1 }) J.kIn hrec (codeAny_mono (F.go (xs := .ref a :: dvs) ro.in1 L.env0.in1 (hb _ [.ref a] L.kIn len) (.cons rfl hd) h1) fun r s' hq => ?_))
  cases r with
  | error er => exact (hx σ pins H1 _ er s' (L.wish _) hq).elim
  | ok fl =>
    cases fl with
    | ret u =>
      obtain ⟨v, H', M, rv, q3⟩ := L.after hq
      show wpAny _ _ (handedOut u) _ _ _
      rw [PySem.W.handedOut_of (handed_of rv)]
      exact wpAny_pure ⟨v, H', M, rv, q3⟩
    | _ => exact hq.elim
end
end VM

/-! VM5: comprehensions, calls of defs, bodies of defs. -/
namespace VM
open PySem PySem.Spec PyProof.Rows L2

/-! ### comprehensions -/
def xF : XC := fun _ _ _ => False
def wipeE (es : Es) : List Nat → Es
  | [] => es
  | v :: vs => (wipeE es vs).set v none
theorem Rl.set_none {K mg Hd eh H} {es : Es} {σ : L2.St} {i : Nat} (R : Rl K mg Hd eh H es σ) : Rl K mg Hd eh H (es.set i none) (σ.set i none) := by
  refine ⟨by simp [R.len], fun j y e => ?_, R.obj⟩
  by_cases h : i = j
  · subst h
    rw [List.getElem?_set] at e
    simp only [ite_true] at e
    split at e <;> cases e
  · rw [List.getElem?_set_ne h] at e
    obtain ⟨w, hw, q⟩ := R.loc j y e
    exact ⟨w, by rw [List.getElem?_set_ne h]; exact hw, q⟩
theorem Rl.wipe {K mg Hd eh H} {es : Es} {σ : L2.St} (R : Rl K mg Hd eh H es σ) : ∀ vs, Rl K mg Hd eh H (wipeE es vs) (wipe σ vs)
  | [] => R
  | v :: vs => (R.wipe vs).set_none
theorem getElem_wipe (σ : L2.St) : ∀ (vs : List Nat) (i : Nat), (wipe σ vs)[i]? = if i ∈ vs then (if i < σ.length then some none else none) else σ[i]?
  | [], i => by simp [wipe]
  | v :: vs, i => by
    unfold wipe
    rw [List.getElem?_set, wipe_length, getElem_wipe σ vs i]
    by_cases h : v = i
    · subst h; simp
    · have h' : ¬ i = v := fun z => h z.symm
      simp [h, h']
theorem wipe_same {σ σ' : L2.St} {vs : List Nat} (hl : σ'.length = σ.length) (h : ∀ i, i ∉ vs → σ'[i]? = σ[i]?) : wipe σ' vs = wipe σ vs := by
  apply List.ext_getElem?
  intro i
  rw [getElem_wipe, getElem_wipe, hl]
  by_cases hi : i ∈ vs
  · simp [hi]
  · simp [hi, h i hi]
theorem wipe_wipe {σ : L2.St} {vs : List Nat} : wipe (wipe σ vs) vs = wipe σ vs :=
  wipe_same (wipe_length σ vs) fun i hi => by rw [getElem_wipe]; simp [hi]
def compL (g : Tg) (tt : MT) (te : ME) (vs : List Nat) (ok : Eh → Prop) (q : KE) : List EV → List EV → Es → Eh → Prop
  | [], acc, es, eh => ok eh ∧ q (.lst acc) eh
  | x :: xs, acc, es, eh => ok eh ∧ ∃ es', asg g x (wipeE es vs) = some es' ∧ tt xF es' eh fun b eh1 => match b with
    | true => te xF es' eh1 fun y eh2 => acc.length < sizeLine ∧ compL g tt te vs ok q xs (acc ++ [y]) es eh2
    | false => compL g tt te vs ok q xs acc es eh1
def mComp (mi : MI) (g : Tg) (tt : MT) (te : ME) (vs : List Nat) : ME := fun xc es eh q => mi xc es eh fun xs ok eh1 => compL g tt te vs ok q xs [] es eh1
def tYesE : MT := fun _ _ eh q => q true eh
/-- two sources: behind the outer target the inner source is walked -/
def comp2In (g : Tg) (tt : MT) (te : ME) (vs : List Nat) (ok : Eh → Prop) (k : List EV → Eh → Prop) : List EV → List EV → Es → Eh → Prop
  | [], acc, es, eh => ok eh ∧ k acc eh
  | x :: xs, acc, es, eh => ok eh ∧ ∃ es', asg g x (wipeE es vs) = some es' ∧ tt xF es' eh fun b eh1 => match b with
    | true => te xF es' eh1 fun y eh2 => acc.length < sizeLine ∧ comp2In g tt te vs ok k xs (acc ++ [y]) es eh2
    | false => comp2In g tt te vs ok k xs acc es eh1
def comp2L (g : Tg) (tt : MT) (mi1 : MI) (g1 : Tg) (tt1 : MT) (te : ME) (vs vs1 : List Nat) (ok : Eh → Prop) (q : KE) : List EV → List EV → Es → Eh → Prop
  | [], acc, es, eh => ok eh ∧ q (.lst acc) eh
  | x :: xs, acc, es, eh => ok eh ∧ ∃ es', asg g x (wipeE es vs) = some es' ∧ tt xF es' eh fun b eh1 => match b with
    | true => mi1 xF es' eh1 fun ys ok1 eh2 => comp2In g1 tt1 te vs1 ok1 (fun acc' eh3 => comp2L g tt mi1 g1 tt1 te vs vs1 ok q xs acc' es eh3) ys acc es' eh2
    | false => comp2L g tt mi1 g1 tt1 te vs vs1 ok q xs acc es eh1
def mComp2 (mi : MI) (g : Tg) (tt : MT) (mi1 : MI) (g1 : Tg) (tt1 : MT) (te : ME) (vs vs1 : List Nat) : ME := fun xc es eh q => mi xc es eh fun xs ok eh1 => comp2L g tt mi1 g1 tt1 te vs vs1 ok q xs [] es eh1
theorem XOk.no {K mg Hd eh H} : XOk K mg E0 Hd eh H xF := fun _ _ _ _ _ _ _ _ _ _ _ _ h => h.elim
section
variable {K : PySem.W.Frag} {mg : MW} {E : XK} {Hd : Addr → Prop} {eh : Eh} {H : Hp} {D : Addr}
/-- one more is hidden: the new list -/
theorem hide {vs : List V} (R : Rh K mg Hd eh H) (n : H D = none) : Rh K mg (fun a => Hd a ∨ a = D) eh (upd H D (.lst vs)) := by
  refine ⟨tabs_new R.tb n, fun a u e => ?_, fun a z => ?_⟩
  · obtain ⟨w, hw, _⟩ := (R.ob a u e).some
    exact ((R.ob a u e).hid fun b z => z.elim .inl fun z => .inr (z ▸ n)).step' (.newF n) (upd_ne (ne_of_none hw n))
  · rcases z with z | z
    · exact (R.newF n).hd a z
    · subst z; exact ⟨⟨_, upd_same⟩, R.fresh n⟩
/-- what is hidden is written -/
theorem hid_ne (hd : Hd D) {a : Addr} (n : ¬ Hd a) : a ≠ D := fun z => n (z ▸ hd)
section
variable (hd : Hd D) {va : List V} (e : H D = some (.lst va)) (o : HO)
include hd e
theorem SqT.hw {a : Addr} {vs : List V} (h : SqT K H a vs) : SqT K (upd H D o) a vs := by
  rcases h with (h | ⟨w, h⟩) | h
  · exact .inl (.inl (by rw [upd_ne fun z => by subst z; rw [e] at h; cases h]; exact h))
  · exact .inl (.inr ⟨w, by rw [upd_ne fun z => by subst z; rw [e] at h; cases h]; exact h⟩)
  · exact .inr h
mutual
theorem Rp.hw : ∀ {x : EV} {v : V}, Rp K mg Hd eh H x v → Rp K mg Hd eh (upd H D o) x v
  | .non, _, h => h
  | .bl _, _, h => h
  | .int _, _, h => h
  | .str _, _, h => h
  | .ty _, _, h => h
  | .ref _, _, h => h
  | .glo _, _, h => h
  | .tup xs, _, ⟨a, vs, z, h, r⟩ => ⟨a, vs, z, SqT.hw hd e o h, RpL.hw r⟩
  | .scr ns, _, ⟨a, z, h⟩ => ⟨a, z, by
    rcases h with ⟨w, h⟩ | ⟨h, n, m⟩ | h
    · exact .inl ⟨w, by rw [upd_ne fun z => by subst z; rw [e] at h; cases h]; exact h⟩
    · exact .inr (.inl ⟨by rw [upd_ne (hid_ne hd m)]; exact h, n, m⟩)
    · exact .inr (.inr h)⟩
  | .lst xs, _, ⟨a, vs, z, h, n, r⟩ => ⟨a, vs, z, by rw [upd_ne (hid_ne hd n.2)]; exact h, n, RpL.hw r⟩
  | .dct xs, _, ⟨a, w, vs, z, h, r⟩ => ⟨a, w, vs, z, by rw [upd_ne fun z => by subst z; rw [e] at h; cases h]; exact h, RpK.hw r⟩
  | .obj C fs, _, ⟨a, c, dx, us, z, m, h, n, r⟩ => ⟨a, c, dx, us, z, m, by rw [upd_ne (hid_ne hd n.2)]; exact h, n, RpF.hw r⟩
  | .exc C x, _, ⟨a, c, d, u, z, m, h, h', n, n', r⟩ => ⟨a, c, d, u, z, m, by rw [upd_ne (hid_ne hd n.2)]; exact h, by rw [upd_ne (hid_ne hd n'.2)]; exact h', n, n', Rp.hw r⟩
  | .exa _ C x, _, ⟨a, c, d, u, z, m, h, h', n, n', r⟩ => ⟨a, c, d, u, z, m, by rw [upd_ne (hid_ne hd n.2)]; exact h, by rw [upd_ne (hid_ne hd n'.2)]; exact h', n, n', Rp.hw r⟩
  | .dn xs, _, ⟨a, w, ys, us, z, h, ⟨z1, z2, z3, z4, z5⟩, r⟩ => ⟨a, w, ys, us, z, by rw [upd_ne fun z => by subst z; rw [e] at h; cases h]; exact h, ⟨z1, z2, z3, fun x hx => ⟨(z4 x hx).1.ext fun _ _ w => SqT.hw hd e o w, (z4 x hx).2⟩, z5⟩, RpN.hw r⟩
theorem RpL.hw : ∀ {x : List EV} {v : List V}, RpL K mg Hd eh H x v → RpL K mg Hd eh (upd H D o) x v
  | [], _, h => h
  | _ :: _, _, ⟨v, r, z, h, t⟩ => ⟨v, r, z, Rp.hw h, RpL.hw t⟩
theorem RpK.hw : ∀ {x : List (Key × EV)} {v : List (Key × V)}, RpK K mg Hd eh H x v → RpK K mg Hd eh (upd H D o) x v
  | [], _, h => h
  | (_, _) :: _, _, ⟨v, r, z, h, t⟩ => ⟨v, r, z, Rp.hw h, RpK.hw t⟩
theorem RpF.hw : ∀ {x : List (Str × EV)} {v : List (Str × V)}, RpF K mg Hd eh H x v → RpF K mg Hd eh (upd H D o) x v
  | [], _, h => h
  | (_, _) :: _, _, ⟨v, r, z, h, t⟩ => ⟨v, r, z, Rp.hw h, RpF.hw t⟩
theorem RpN.hw : ∀ {x : List (NestedKey × EV)} {v : List V}, RpN K mg Hd eh H x v → RpN K mg Hd eh (upd H D o) x v
  | [], _, h => h
  | (_, _) :: _, _, ⟨v, r, z, h, t⟩ => ⟨v, r, z, Rp.hw h, RpN.hw t⟩
end
end
theorem Rh.hw (R : Rh K mg Hd eh H) (hd : Hd D) {va : List V} (e : H D = some (.lst va)) (vb : List V) : Rh K mg Hd eh (upd H D (.lst vb)) := by
  refine ⟨tabs_write R.tb e (fun _ z => nomatch z) (fun _ _ z => nomatch z), fun a u ea => ?_, fun a z => ?_⟩
  · have na : a ≠ D := fun z => by subst z; have := (R.hd a hd).2; rw [ea] at this; cases this
    have z := R.ob a u ea
    cases u with
    | lst xs => obtain ⟨vs, q, r⟩ := z; exact ⟨vs, by rw [upd_ne na]; exact q, r.hw hd e _⟩
    | dct xs => obtain ⟨vs, q, r⟩ := z; exact ⟨vs, by rw [upd_ne na]; exact q, r.hw hd e _⟩
    | ins C fs => obtain ⟨c, dx, us, m, q, r⟩ := z; exact ⟨c, dx, us, m, by rw [upd_ne na]; exact q, r.hw hd e _⟩
    | dN xs =>
      obtain ⟨ys, us, q, z, hz, ek, k, v, r⟩ := z
      exact ⟨ys, us, by rw [upd_ne na]; exact q, z, hz, ek, fun x hx => ⟨(k x hx).1.ext fun b ws w => SqT.hw hd e _ w, (k x hx).2⟩, v, r.hw hd e _⟩
  · obtain ⟨⟨w, hw⟩, n⟩ := R.hd a z
    by_cases ha : a = D
    · subst ha; exact ⟨⟨_, upd_same⟩, n⟩
    · exact ⟨⟨w, by rw [upd_ne ha]; exact hw⟩, n⟩
theorem Step.over {eh' : Eh} {H' : Hp} {o : HO} (s : Step eh H eh' H') (n : H D = none) : Step eh H eh' (upd H' D o) :=
  ⟨fun a u h m t => ⟨by rw [upd_ne (ne_of_none h n)]; exact (s.st a u h m t).1, (s.st a u h m t).2⟩, fun a xs h => by rw [upd_ne (ne_of_none h n)]; exact s.tup a xs h, fun a w u h => by rw [upd_ne (ne_of_none h n)]; exact s.frz a w u h⟩
theorem Rl.hid {Hd' : Addr → Prop} {es : Es} {σ : L2.St} (R : Rl K mg Hd eh H es σ) (i : ∀ a, Hd' a → Hd a ∨ H a = none) {eh' : Eh} {H' : Hp} (s : Step eh H eh' H') (R' : Rh K mg Hd' eh' H') : Rl K mg Hd' eh' H' es σ :=
  ⟨R.len, fun j x e => let ⟨v, a, b⟩ := R.loc j x e; ⟨v, a, (b.hid i).step s⟩, R'⟩
section
variable {K : PySem.W.Frag} {mg : MW} {Hd : Addr → Prop} {eh : Eh} {H : Hp} {D : Addr} {o : Option EO}
mutual
theorem Rp.unh : ∀ {x : EV} {v : V}, Rp K mg (fun a => Hd a ∨ a = D) eh H x v → Rp K mg Hd (eupd eh D o) H x v
  | .non, _, h => h
  | .bl _, _, h => h
  | .int _, _, h => h
  | .str _, _, h => h
  | .ty _, _, h => h
  | .ref _, _, h => h
  | .glo _, _, h => h
  | .tup xs, _, ⟨a, vs, z, h, r⟩ => ⟨a, vs, z, h, RpL.unh r⟩
  | .scr ns, _, ⟨a, z, h⟩ => ⟨a, z, by
    rcases h with ⟨w, h⟩ | ⟨h, n, m⟩ | h
    · exact .inl ⟨w, h⟩
    · exact .inr (.inl ⟨h, by rw [eupd_ne fun z => m (.inr z)]; exact n, fun z => m (.inl z)⟩)
    · exact .inr (.inr h)⟩
  | .lst xs, _, ⟨a, vs, z, h, n, r⟩ => ⟨a, vs, z, h, ⟨by rw [eupd_ne fun z => n.2 (.inr z)]; exact n.1, fun z => n.2 (.inl z)⟩, RpL.unh r⟩
  | .dct xs, _, ⟨a, w, vs, z, h, r⟩ => ⟨a, w, vs, z, h, RpK.unh r⟩
  | .obj C fs, _, ⟨a, c, dx, us, z, m, h, n, r⟩ => ⟨a, c, dx, us, z, m, h, ⟨by rw [eupd_ne fun z => n.2 (.inr z)]; exact n.1, fun z => n.2 (.inl z)⟩, RpF.unh r⟩
  | .exc C x, _, ⟨a, c, d, u, z, m, h, h', n, n', r⟩ => ⟨a, c, d, u, z, m, h, h', ⟨by rw [eupd_ne fun z => n.2 (.inr z)]; exact n.1, fun z => n.2 (.inl z)⟩, ⟨by rw [eupd_ne fun z => n'.2 (.inr z)]; exact n'.1, fun z => n'.2 (.inl z)⟩, Rp.unh r⟩
  | .exa _ C x, _, ⟨a, c, d, u, z, m, h, h', n, n', r⟩ => ⟨a, c, d, u, z, m, h, h', ⟨by rw [eupd_ne fun z => n.2 (.inr z)]; exact n.1, fun z => n.2 (.inl z)⟩, ⟨by rw [eupd_ne fun z => n'.2 (.inr z)]; exact n'.1, fun z => n'.2 (.inl z)⟩, Rp.unh r⟩
  | .dn xs, _, ⟨a, w, ys, us, z, h, q, r⟩ => ⟨a, w, ys, us, z, h, q, RpN.unh r⟩
theorem RpL.unh : ∀ {x : List EV} {v : List V}, RpL K mg (fun a => Hd a ∨ a = D) eh H x v → RpL K mg Hd (eupd eh D o) H x v
  | [], _, h => h
  | _ :: _, _, ⟨v, r, z, h, t⟩ => ⟨v, r, z, Rp.unh h, RpL.unh t⟩
theorem RpK.unh : ∀ {x : List (Key × EV)} {v : List (Key × V)}, RpK K mg (fun a => Hd a ∨ a = D) eh H x v → RpK K mg Hd (eupd eh D o) H x v
  | [], _, h => h
  | (_, _) :: _, _, ⟨v, r, z, h, t⟩ => ⟨v, r, z, Rp.unh h, RpK.unh t⟩
theorem RpF.unh : ∀ {x : List (Str × EV)} {v : List (Str × V)}, RpF K mg (fun a => Hd a ∨ a = D) eh H x v → RpF K mg Hd (eupd eh D o) H x v
  | [], _, h => h
  | (_, _) :: _, _, ⟨v, r, z, h, t⟩ => ⟨v, r, z, Rp.unh h, RpF.unh t⟩
theorem RpN.unh : ∀ {x : List (NestedKey × EV)} {v : List V}, RpN K mg (fun a => Hd a ∨ a = D) eh H x v → RpN K mg Hd (eupd eh D o) H x v
  | [], _, h => h
  | (_, _) :: _, _, ⟨v, r, z, h, t⟩ => ⟨v, r, z, Rp.unh h, RpN.unh t⟩
end
theorem Rh.unh {acc : List EV} {va : List V} (R : Rh K mg (fun a => Hd a ∨ a = D) eh H) (nH : ¬ Hd D) (e : H D = some (.lst va)) (r : RpL K mg (fun a => Hd a ∨ a = D) eh H acc va) : Rh K mg Hd (eupd eh D (some (.lst acc))) H := by
  refine ⟨R.tb, fun a u ea => ?_, fun a z => ?_⟩
  · by_cases ha : a = D
    · subst ha
      rw [eupd_same] at ea; cases ea
      exact ⟨va, e, r.unh⟩
    · rw [eupd_ne ha] at ea
      have z := R.ob a u ea
      cases u with
      | lst xs => obtain ⟨vs, q, r⟩ := z; exact ⟨vs, q, r.unh⟩
      | dct xs => obtain ⟨vs, q, r⟩ := z; exact ⟨vs, q, r.unh⟩
      | ins C fs => obtain ⟨c, dx, us, m, q, r⟩ := z; exact ⟨c, dx, us, m, q, r.unh⟩
      | dN xs => obtain ⟨ys, us, q, z, hz, ek, k, v, r⟩ := z; exact ⟨ys, us, q, z, hz, ek, k, v, r.unh⟩
  · obtain ⟨h, n⟩ := R.hd a (.inl z)
    by_cases ha : a = D
    · subst ha; exact absurd z nH
    · exact ⟨h, by rw [eupd_ne ha]; exact n⟩
end
theorem lc_gen {mi : MI} {g : Tg} {tt : MT} {te : ME} {vs : List Nat} (hv : ∀ i ∈ slots g, i ∈ vs) {σ : L2.St} {H : Hp} {Q : VK} {q : KE} {Hd : Addr → Prop} {es : Es} {eh : Eh} {xc : XC} (R : Rl K mg Hd eh H es σ) (xo : XOk K mg E Hd eh H xc) (m : mComp mi g tt te vs xc es eh q)
    (k : ∀ ehA HA, Step eh H ehA HA → ∀ eh1 H1 acc D va, HA D = none → Step ehA HA eh1 H1 → Rh K mg (fun a => Hd a ∨ a = D) eh1 H1 → H1 D = some (.lst va) → eh1 D = none → ¬ Hd D → RpL K mg (fun a => Hd a ∨ a = D) eh1 H1 acc va → q (.lst acc) eh1 → Q (.ref D) H1) : tLc (UI K mg E mi) (UG K mg g) (UT K mg E0 tt) (U K mg E0 te) vs σ H Q :=
  ⟨Hd, es, eh, xc, _, R, xo, m, fun ehA HA xs ok J sA RA jo mA D hD => by
    have hh : ∀ a, (Hd a ∨ a = D) → Hd a ∨ HA a = none := fun a z => z.elim .inl fun z => .inr (z ▸ hD)
    have RlA := R.step sA RA
    refine ⟨fun i n H => ∃ eh acc va, i + n = xs.length ∧ Step ehA HA eh H ∧ Rh K mg (fun a => Hd a ∨ a = D) eh H ∧ H D = some (.lst va) ∧ RpL K mg (fun a => Hd a ∨ a = D) eh H acc va ∧ compL g tt te vs ok q (xs.drop i) acc es eh,
      ⟨xs.length, ehA, [], [], by omega, .newF hD, hide RA hD, upd_same, .nil, mA⟩, ?_⟩
    rintro i n H ⟨eh, acc, va, hn, s1, R1, eD, rA, f⟩
    cases hd : xs.drop i with
    | nil =>
      rw [hd] at f
      have : xs.length ≤ i := by simpa using hd
      exact .inl ⟨jo.stop i _ eh H hh s1.w R1 f.1 this, k ehA HA sA eh H acc D va hD s1 R1 eD (R1.hd D (.inr rfl)).2 (RA.notHid hD) rA f.2⟩
    | cons x r =>
      rw [hd] at f
      obtain ⟨hx, hr, hl⟩ := drop_cons hd
      obtain ⟨o, es', ea, f⟩ := f
      refine .inr ⟨jo.go i _ eh H hh s1.w R1 o hl, fun H => ∃ eh acc va, (i + 1) + (n - 1) = xs.length ∧ Step ehA HA eh H ∧ Rh K mg (fun a => Hd a ∨ a = D) eh H ∧ H D = some (.lst va) ∧ RpL K mg (fun a => Hd a ∨ a = D) eh H acc va ∧ compL g tt te vs ok q (xs.drop (i + 1)) acc es eh,
        fun H' w => ⟨n - 1, by omega, w⟩, fun v H2 y => ?_⟩
      obtain ⟨x', hx', s2, R2, r2, kp⟩ := jo.yld i _ eh H v H2 hh s1.w R1 o hl y
      rw [hx] at hx'; cases hx'
      have eD2 := kp D _ eD
      have nD := (R1.hd D (.inr rfl)).2
      have Rs : Rl K mg (fun a => Hd a ∨ a = D) eh H2 es σ := RlA.hid hh (s1.trans s2) R2
      refine ⟨_, wipeE es vs, eh, x, es', Rs.wipe vs, r2, ea, fun σ3 R3 l3 s3 => ⟨?_, _, es', eh, xF, _, R3, .no, f, fun eh4 H4 b s4 R4 f4 => ?_⟩⟩
      · refine (wipe_same (σ := wipe σ vs) l3 fun i hi => s3 i fun z => hi (hv i z)).trans wipe_wipe
      · have e4 := s4.st D _ eD2 nD (fun _ z => nomatch z)
        cases b with
        | true =>
          refine iteT ⟨_, es', eh4, xF, _, R3.step s4 R4, .no, f4, fun eh5 H5 y v s5 R5 r5 ⟨hl, f5⟩ => ?_⟩
          have e5 := s5.st D _ e4.1 e4.2 (fun _ z => nomatch z)
          refine ⟨va, e5.1, by rw [← rA.length]; exact hl, eh5, acc ++ [y], va ++ [v], by omega, ((s1.trans (s2.trans (s4.trans s5)))).over hD, R5.hw (.inr rfl) e5.1 _, upd_same, ?_, by rw [hr]; exact f5⟩
          exact RpL.hw (.inr rfl) e5.1 _ ((rA.step (s2.trans (s4.trans s5))).append (.one r5))
        | false => exact iteF ⟨eh4, acc, va, by omega, s1.trans (s2.trans s4), R4, e4.1, rA.step (s2.trans s4), by rw [hr]; exact f4⟩⟩
theorem lc_lift {mi : MI} {g : Tg} {tt : MT} {te : ME} {vs : List Nat} (hv : ∀ i ∈ slots g, i ∈ vs) : ∀ σ H Q, U K mg E (mComp mi g tt te vs) σ H Q → tLc (UI K mg E mi) (UG K mg g) (UT K mg E0 tt) (U K mg E0 te) vs σ H Q :=
  fun σ H Q ⟨Hd, es, eh, xc, q, R, xo, m, k⟩ => lc_gen hv R xo m fun ehA HA sA eh H acc D va hD s1 R1 eD nD nH rA f => k eh H (.lst acc) (.ref D) (sA.trans s1) (R1.less fun _ z => .inl z) ⟨D, va, rfl, eD, ⟨nD, nH⟩, rA.hid fun _ z => .inl (.inl z)⟩ f
/-- a list comprehension whose list will be written -/
def qRef (q : KE) : KE := fun z eh => ∃ acc, z = .lst acc ∧ ∀ p, eh p = none → q (.ref p) (eupd eh p (some (.lst acc)))
def mCompR (mi : MI) (g : Tg) (tt : MT) (te : ME) (vs : List Nat) : ME := fun xc es eh q => mComp mi g tt te vs xc es eh (qRef q)
theorem lc_liftR {mi : MI} {g : Tg} {tt : MT} {te : ME} {vs : List Nat} (hv : ∀ i ∈ slots g, i ∈ vs) : ∀ σ H Q, U K mg E (mCompR mi g tt te vs) σ H Q → tLc (UI K mg E mi) (UG K mg g) (UT K mg E0 tt) (U K mg E0 te) vs σ H Q :=
  fun σ H Q ⟨Hd, es, eh, xc, q, R, xo, m, k⟩ => lc_gen hv R xo m fun ehA HA sA eh1 H1 acc D va hD s1 R1 eD nD nH rA ⟨acc', e, f⟩ => by
    cases e
    refine k (eupd eh1 D (some (.lst acc))) H1 (.ref D) (.ref D) ⟨fun a o h n t => ⟨((sA.trans s1).st a o h n t).1, ?_⟩, (sA.trans s1).tup, (sA.trans s1).frz⟩ (R1.unh nH eD rA) rfl (f D nD)
    by_cases ha : a = D
    · subst ha
      have := (sA.st a o h n t).1
      rw [hD] at this; cases this
    · rw [eupd_ne ha]; exact ((sA.trans s1).st a o h n t).2
theorem lc2_lift {mi mi1 : MI} {g g1 : Tg} {tt tt1 : MT} {te : ME} {vs vs1 : List Nat} (hv : ∀ i ∈ slots g, i ∈ vs) (hv1 : ∀ i ∈ slots g1, i ∈ vs1) : ∀ σ H Q, U K mg E (mComp2 mi g tt mi1 g1 tt1 te vs vs1) σ H Q →
    tLc2 (UI K mg E mi) (UG K mg g) (UT K mg E0 tt) (UI K mg E0 mi1) (UG K mg g1) (UT K mg E0 tt1) (U K mg E0 te) vs vs1 σ H Q :=
  fun σ H Q ⟨Hd, es, eh, xc, q, R, xo, m, k⟩ => ⟨Hd, es, eh, xc, _, R, xo, m, fun ehA HA xs ok J sA RA jo mA D hD => by
    have hh : ∀ a, (Hd a ∨ a = D) → Hd a ∨ HA a = none := fun a z => z.elim .inl fun z => .inr (z ▸ hD)
    have RlA := R.step sA RA
    refine ⟨fun i n H => ∃ eh acc va, i + n = xs.length ∧ Step ehA HA eh H ∧ Rh K mg (fun a => Hd a ∨ a = D) eh H ∧ H D = some (.lst va) ∧ RpL K mg (fun a => Hd a ∨ a = D) eh H acc va ∧ comp2L g tt mi1 g1 tt1 te vs vs1 ok q (xs.drop i) acc es eh,
      ⟨xs.length, ehA, [], [], by omega, .newF hD, hide RA hD, upd_same, .nil, mA⟩, ?_⟩
    rintro i n H ⟨eh, acc, va, hn, s1, R1, eD, rA, f⟩
    cases hd : xs.drop i with
    | nil =>
      rw [hd] at f
      have : xs.length ≤ i := by simpa using hd
      exact .inl ⟨jo.stop i _ eh H hh s1.w R1 f.1 this, k eh H (.lst acc) (.ref D) (sA.trans s1) (R1.less fun _ z => .inl z) ⟨D, va, rfl, eD, ⟨(R1.hd D (.inr rfl)).2, RA.notHid hD⟩, rA.hid fun _ z => .inl (.inl z)⟩ f.2⟩
    | cons x r =>
      rw [hd] at f
      obtain ⟨hx, hr, hl⟩ := drop_cons hd
      obtain ⟨o, es', ea, f⟩ := f
      refine .inr ⟨jo.go i _ eh H hh s1.w R1 o hl, fun H => ∃ eh acc va, (i + 1) + (n - 1) = xs.length ∧ Step ehA HA eh H ∧ Rh K mg (fun a => Hd a ∨ a = D) eh H ∧ H D = some (.lst va) ∧ RpL K mg (fun a => Hd a ∨ a = D) eh H acc va ∧ comp2L g tt mi1 g1 tt1 te vs vs1 ok q (xs.drop (i + 1)) acc es eh,
        fun H' w => ⟨n - 1, by omega, w⟩, fun v H2 y => ?_⟩
      obtain ⟨x', hx', s2, R2, r2, kp⟩ := jo.yld i _ eh H v H2 hh s1.w R1 o hl y
      rw [hx] at hx'; cases hx'
      have eD2 := kp D _ eD
      have nD := (R1.hd D (.inr rfl)).2
      have Rs : Rl K mg (fun a => Hd a ∨ a = D) eh H2 es σ := RlA.hid hh (s1.trans s2) R2
      refine ⟨_, wipeE es vs, eh, x, es', Rs.wipe vs, r2, ea, fun σ3 R3 l3 s3 => ⟨?_, _, es', eh, xF, _, R3, .no, f, fun eh4 H4 b s4 R4 f4 => ?_⟩⟩
      · refine (wipe_same (σ := wipe σ vs) l3 fun i hi => s3 i fun z => hi (hv i z)).trans wipe_wipe
      · have e4 := s4.st D _ eD2 nD (fun _ z => nomatch z)
        cases b with
        | false => exact iteF ⟨eh4, acc, va, by omega, s1.trans (s2.trans s4), R4, e4.1, rA.step (s2.trans s4), by rw [hr]; exact f4⟩
        | true =>
          refine iteT ⟨_, es', eh4, xF, _, R3.step s4 R4, .no, f4, fun ehB HB ys ok1 J1 sB RB jo1 mB => ?_⟩
          have eB := sB.st D _ e4.1 e4.2 (fun _ z => nomatch z)
          have sAB := s1.trans (s2.trans (s4.trans sB))
          have R3B := (R3.step s4 R4).step sB RB
          refine ⟨fun j n1 H => ∃ eh acc va, j + n1 = ys.length ∧ StepW (fun a => Hd a ∨ a = D) ehB HB eh H ∧ Step ehA HA eh H ∧ Rl K mg (fun a => Hd a ∨ a = D) eh H es' σ3 ∧ H D = some (.lst va) ∧ RpL K mg (fun a => Hd a ∨ a = D) eh H acc va ∧
            comp2In g1 tt1 te vs1 ok1 (fun acc' eh3 => comp2L g tt mi1 g1 tt1 te vs vs1 ok q r acc' es eh3) (ys.drop j) acc es' eh, ⟨ys.length, ehB, acc, va, by omega, Step.refl.w, sAB, R3B, eB.1, rA.step (s2.trans (s4.trans sB)), mB⟩, ?_⟩
          rintro j n1 H ⟨eh6, acc6, va6, hn6, sB6, sA6, R6, eD6, rA6, f6⟩
          have nD6 := (R6.obj.hd D (.inr rfl)).2
          have hhB : ∀ a, (Hd a ∨ a = D) → (Hd a ∨ a = D) ∨ HB a = none := fun a z => .inl z
          cases hd6 : ys.drop j with
          | nil =>
            rw [hd6] at f6
            have : ys.length ≤ j := by simpa using hd6
            exact .inl ⟨jo1.stop j _ eh6 H hhB sB6 R6.obj f6.1 this, eh6, acc6, va6, by omega, sA6, R6.obj, eD6, rA6, by rw [hr]; exact f6.2⟩
          | cons x6 r6 =>
            rw [hd6] at f6
            obtain ⟨hx6, hr6, hl6⟩ := drop_cons hd6
            obtain ⟨o6, es6, ea6, f6⟩ := f6
            refine .inr ⟨jo1.go j _ eh6 H hhB sB6 R6.obj o6 hl6, fun H => ∃ eh acc va, (j + 1) + (n1 - 1) = ys.length ∧ StepW (fun a => Hd a ∨ a = D) ehB HB eh H ∧ Step ehA HA eh H ∧ Rl K mg (fun a => Hd a ∨ a = D) eh H es' σ3 ∧ H D = some (.lst va) ∧ RpL K mg (fun a => Hd a ∨ a = D) eh H acc va ∧
              comp2In g1 tt1 te vs1 ok1 (fun acc' eh3 => comp2L g tt mi1 g1 tt1 te vs vs1 ok q r acc' es eh3) (ys.drop (j + 1)) acc es' eh, fun H' w => ⟨n1 - 1, by omega, w⟩, fun v6 H7 y6 => ?_⟩
            obtain ⟨x6', hx6', s7, R7, r7, kp7⟩ := jo1.yld j _ eh6 H v6 H7 hhB sB6 R6.obj o6 hl6 y6
            rw [hx6] at hx6'; cases hx6'
            have eD7 := kp7 D _ eD6
            have Rs7 := R6.step s7 R7
            refine ⟨_, wipeE es' vs1, eh6, x6, es6, Rs7.wipe vs1, r7, ea6, fun σ8 R8 l8 s8 => ⟨?_, _, es6, eh6, xF, _, R8, .no, f6, fun eh9 H9 b9 s9 R9 f9 => ?_⟩⟩
            · refine (wipe_same (σ := wipe σ3 vs1) l8 fun i hi => s8 i fun z => hi (hv1 i z)).trans wipe_wipe
            · have e9 := s9.st D _ eD7 nD6 (fun _ z => nomatch z)
              cases b9 with
              | false => exact iteF ⟨eh9, acc6, va6, by omega, sB6.trans (s7.trans s9).w, sA6.trans (s7.trans s9), Rs7.step s9 R9, e9.1, rA6.step (s7.trans s9), by rw [hr6]; exact f9⟩
              | true =>
                refine iteT ⟨_, es6, eh9, xF, _, R8.step s9 R9, .no, f9, fun ehC HC yC vC sC RC rC ⟨hlC, fC⟩ => ?_⟩
                have eC := sC.st D _ e9.1 e9.2 (fun _ z => nomatch z)
                have sall := s7.trans (s9.trans sC)
                have RCw := RC.hw (.inr rfl) eC.1 (va6 ++ [vC])
                refine ⟨va6, eC.1, by rw [← rA6.length]; exact hlC, ehC, acc6 ++ [yC], va6 ++ [vC], by omega, ?_, (sA6.trans sall).over hD, ?_, upd_same, ?_, by rw [hr6]; exact fC⟩
                · exact sB6.trans (sall.w.trans ⟨fun a o h n _ m => ⟨by rw [upd_ne fun z => m (.inr z)]; exact h, n⟩, fun a xs h => by rw [upd_ne fun z => by subst z; rw [eC.1] at h; cases h]; exact h, fun a w u h => by rw [upd_ne fun z => by subst z; rw [eC.1] at h; cases h]; exact h⟩)
                · exact ⟨R6.len, fun i x e => let ⟨w, hw, qw⟩ := R6.loc i x e; ⟨w, hw, (qw.step sall).hw (.inr rfl) eC.1 _⟩, RCw⟩
                · exact RpL.hw (.inr rfl) eC.1 _ ((rA6.step sall).append (.one rC))⟩
end
section
variable {X : Cx} {E : XK} {elt tg iter tg1 iter1 : Expr} {ifs ifs1 : List Expr} {scope : Scope} {own : List (Str × Nat)} {pos : Pos} {mi mi1 : MI} {g g1 : Tg} {tt tt1 : MT} {te : ME}
theorem rts_nil : PTs X [] (UT X.K X.mw E tYesE) := ⟨fun pins s σ H Q I ⟨Hd, es, eh, xc, q, R, xo, m, k⟩ => pts_nil.run pins s σ H Q I (k eh H true .refl R.obj m)⟩
theorem rts_one {c : Expr} {mt : MT} (h : PT X c (UT X.K X.mw E mt)) : PTs X [c] (UT X.K X.mw E mt) := pts_one h
theorem re_comp (hc : X.calm = true) (hN : X.N.Nodup) (hi : PI X tg iter (UI X.K X.mw E mi)) (ok : BlkOk X.N X.env.scope scope own)
    (hg : ∀ (s : Shared) (H : Hp) (C : Addr) (cl : List (Str × Addr)) (fp : List Addr), PG (X.blk s H scope (compEnvC scope cl C X.env) fp) tg (UG X.K X.mw g)) (ht : ∀ (s : Shared) (H : Hp) (C : Addr) (cl : List (Str × Addr)) (fp : List Addr), PTs (X.blk s H scope (compEnvC scope cl C X.env) fp) ifs (UT X.K X.mw E0 tt))
    (he : ∀ (s : Shared) (H : Hp) (C : Addr) (cl : List (Str × Addr)) (fp : List Addr), PE (X.blk s H scope (compEnvC scope cl C X.env) fp) elt (U X.K X.mw E0 te)) (hv : ∀ i ∈ slots g, i ∈ own.map (·.2) := by decide) (hs : ∀ x, foldedSetIterable iter X.env x = pure x := by intro _; rfl) :
    PE X (.ListComp elt [⟨tg, iter, ifs, 0⟩] scope pos) (U X.K X.mw E (mComp mi g tt te (own.map (·.2)))) :=
  PE.imp (pe_lc hc hN hi ok hg ht he hs) (lc_lift hv)
theorem re_comp2 {vs1 : List Nat} (hc : X.calm = true) (hN : X.N.Nodup) (hi : PI X tg iter (UI X.K X.mw E mi)) (ok : BlkOk X.N X.env.scope scope own)
    (hg : ∀ (s : Shared) (H : Hp) (C : Addr) (cl : List (Str × Addr)) (fp : List Addr), PG (X.blk s H scope (compEnvC scope cl C X.env) fp) tg (UG X.K X.mw g)) (ht : ∀ (s : Shared) (H : Hp) (C : Addr) (cl : List (Str × Addr)) (fp : List Addr), PTs (X.blk s H scope (compEnvC scope cl C X.env) fp) ifs (UT X.K X.mw E0 tt))
    (hi1 : ∀ (s : Shared) (H : Hp) (C : Addr) (cl : List (Str × Addr)) (fp : List Addr), PI (X.blk s H scope (compEnvC scope cl C X.env) fp) tg1 iter1 (UI X.K X.mw E0 mi1))
    (hg1 : ∀ (s : Shared) (H : Hp) (C : Addr) (cl : List (Str × Addr)) (fp : List Addr), PG (X.blk s H scope (compEnvC scope cl C X.env) fp) tg1 (UG X.K X.mw g1)) (ht1 : ∀ (s : Shared) (H : Hp) (C : Addr) (cl : List (Str × Addr)) (fp : List Addr), PTs (X.blk s H scope (compEnvC scope cl C X.env) fp) ifs1 (UT X.K X.mw E0 tt1))
    (he : ∀ (s : Shared) (H : Hp) (C : Addr) (cl : List (Str × Addr)) (fp : List Addr), PE (X.blk s H scope (compEnvC scope cl C X.env) fp) elt (U X.K X.mw E0 te)) (hvo : ∀ i ∈ vs1, i ∈ own.map (·.2) := by decide) (hv : ∀ i ∈ slots g, i ∈ own.map (·.2) := by decide) (hv1 : ∀ i ∈ slots g1, i ∈ vs1 := by decide)
    (hs : ∀ x, foldedSetIterable iter X.env x = pure x := by intro _; rfl) (hs1 : ∀ env x, foldedSetIterable iter1 env x = pure x := by intro _ _; rfl) :
    PE X (.ListComp elt [⟨tg, iter, ifs, 0⟩, ⟨tg1, iter1, ifs1, 0⟩] scope pos) (U X.K X.mw E (mComp2 mi g tt mi1 g1 tt1 te (own.map (·.2)) vs1)) :=
  PE.imp (pe_lc2 hc hN hi ok hvo hg ht hi1 hg1 ht1 he hs hs1) (lc2_lift hv hv1)
theorem asg_lift {i : Nat} {t : TE} {m : ME} (h : ∀ σ H Q, U X.K X.mw E m σ H Q → t σ H Q) : ∀ D σ H, US X.K X.mw E (sSet i m) D σ H → tAsg t (L2.gName i) D σ H := fun D σ H ⟨Hd, es, eh, xc, d, R, xo, m, k1, k2, k3, k4⟩ =>
  h σ H _ ⟨Hd, es, eh, xc, _, R, xo, m, fun eh1 H1 x v s1 R1 r1 m1 => k1 _ eh1 _ H1 s1 ((R.step s1 R1).set r1) m1⟩
theorem rs_setComp {i : Nat} {y : Str} {py : Pos} {spos : Pos} (hc : X.calm = true) (hN : X.N.Nodup) (hsw : swapsWith (.ListComp elt [⟨tg, iter, ifs, 0⟩] scope pos) (some (.Name y py)) spos.line X.env = pure true) (hi : PI X tg iter (UI X.K X.mw E mi)) (ok : BlkOk X.N X.env.scope scope own)
    (hg : ∀ (s : Shared) (H : Hp) (C : Addr) (cl : List (Str × Addr)) (fp : List Addr), PG (X.blk s H scope (compEnvC scope cl C X.env) fp) tg (UG X.K X.mw g)) (ht : ∀ (s : Shared) (H : Hp) (C : Addr) (cl : List (Str × Addr)) (fp : List Addr), PTs (X.blk s H scope (compEnvC scope cl C X.env) fp) ifs (UT X.K X.mw E0 tt))
    (he : ∀ (s : Shared) (H : Hp) (C : Addr) (cl : List (Str × Addr)) (fp : List Addr), PE (X.blk s H scope (compEnvC scope cl C X.env) fp) elt (U X.K X.mw E0 te)) (hy : X.N[i]? = some y := by rfl) (hyl : X.env.scope.names.lookup y = some .local := by rfl)
    (hv : ∀ i ∈ slots g, i ∈ own.map (·.2) := by decide) (hs : ∀ x, foldedSetIterable iter X.env x = pure x := by intro _; rfl) :
    PS X (.Assign [.Name y py] (.ListComp elt [⟨tg, iter, ifs, 0⟩] scope pos) spos) (US X.K X.mw E (sSet i (mComp mi g tt te (own.map (·.2))))) :=
  PS.imp (ps_setLc hc hN hy hyl hsw hi ok hg ht he hs) (asg_lift (lc_lift hv))
theorem rs_setCompR {i : Nat} {y : Str} {py : Pos} {spos : Pos} (hc : X.calm = true) (hN : X.N.Nodup) (hsw : swapsWith (.ListComp elt [⟨tg, iter, ifs, 0⟩] scope pos) (some (.Name y py)) spos.line X.env = pure true) (hi : PI X tg iter (UI X.K X.mw E mi)) (ok : BlkOk X.N X.env.scope scope own)
    (hg : ∀ (s : Shared) (H : Hp) (C : Addr) (cl : List (Str × Addr)) (fp : List Addr), PG (X.blk s H scope (compEnvC scope cl C X.env) fp) tg (UG X.K X.mw g)) (ht : ∀ (s : Shared) (H : Hp) (C : Addr) (cl : List (Str × Addr)) (fp : List Addr), PTs (X.blk s H scope (compEnvC scope cl C X.env) fp) ifs (UT X.K X.mw E0 tt))
    (he : ∀ (s : Shared) (H : Hp) (C : Addr) (cl : List (Str × Addr)) (fp : List Addr), PE (X.blk s H scope (compEnvC scope cl C X.env) fp) elt (U X.K X.mw E0 te)) (hy : X.N[i]? = some y := by rfl) (hyl : X.env.scope.names.lookup y = some .local := by rfl)
    (hv : ∀ i ∈ slots g, i ∈ own.map (·.2) := by decide) (hs : ∀ x, foldedSetIterable iter X.env x = pure x := by intro _; rfl) :
    PS X (.Assign [.Name y py] (.ListComp elt [⟨tg, iter, ifs, 0⟩] scope pos) spos) (US X.K X.mw E (sSet i (mCompR mi g tt te (own.map (·.2))))) :=
  PS.imp (ps_setLc hc hN hy hyl hsw hi ok hg ht he hs) (asg_lift (lc_liftR hv))
end

/-! ### defs and their calls -/
abbrev FN := XC → List EV → Eh → KE → Prop
def fnOf (N : Nat) (ms : MS) : FN := fun xc xs eh q => ms xc { nx := fun _ eh => q .non eh, rt := q } (xs.map some ++ List.replicate (N - xs.length) none) eh
def spOf (K : PySem.W.Frag) (mg : MW) (n : Nat) (F : FN) : Sp := fun vs H Q E => ∃ Hd eh xs xc q, vs.length = n ∧ Rh K mg Hd eh H ∧ RpL K mg Hd eh H xs vs ∧ XOk K mg E Hd eh H xc ∧ F xc xs eh q ∧
  ∀ eh' H' x v, Step eh H eh' H' → Rh K mg Hd eh' H' → Rp K mg Hd eh' H' x v → q x eh' → Q v H'
def mCall (F : FN) (n : Nat) (dx : List EV) (t : MA) : ME := fun xc es eh q => t xc es eh fun xs eh1 => (xs ++ dx).length = n ∧ F xc (xs ++ dx) eh1 q
section
variable {K : PySem.W.Frag} {mg : MW} {E : XK}
theorem Rl.start {Hd eh H} {N : List Str} {xs : List EV} {vs : List V} (R : Rh K mg Hd eh H) (r : RpL K mg Hd eh H xs vs) : Rl K mg Hd eh H (xs.map some ++ List.replicate (N.length - xs.length) Option.none) (start N vs) := by
  refine ⟨by simp [L2.start, r.length], fun i x e => ?_, R⟩
  rw [List.getElem?_append] at e
  split at e
  · rename_i h
    rw [List.getElem?_map, Option.map_eq_some_iff] at e
    obtain ⟨y, hy, e⟩ := e
    cases e
    obtain ⟨v, hv, q⟩ := r.get hy
    refine ⟨v, ?_, q⟩
    unfold L2.start
    rw [List.getElem?_append_left (by rw [List.length_map, ← r.length]; simpa using h), List.getElem?_map, hv]
    rfl
  · rw [List.getElem?_replicate] at e
    split at e <;> cases e
theorem sp_start {N : List Str} {n : Nat} {ms : MS} {vs : List V} {H : Hp} {Q : VK} (h : spOf K mg n (fnOf N.length ms) vs H Q E) : US K mg E ms { nx := fun _ H' => Q .non H', rt := Q } (L2.start N vs) H := by
  obtain ⟨Hd, eh, xs, xc, q, hl, R, r, xo, m, k⟩ := h
  exact ⟨Hd, _, eh, xc, _, Rl.start R r, xo, m, fun es' eh' σ' H' s' R' m' => k eh' H' .non .non s' R'.obj rfl m', k, fun _ _ _ _ _ _ h => h.elim, fun _ _ _ _ _ _ h => h.elim⟩
end
section
variable {P : Program} {w : World} {K : PySem.W.Frag} {mg : Str → Option Value} {base : Heap} {x qual : Str} {params : Arguments} {body : List Stmt} {scope : Scope} {dvs : List V} {kws : List (Str × V)} {f : Addr} {fd : FuncData} {N ps : List Str} {k : Nat} {ms : MS}
/-- a def that lets no exception out -/
theorem fn_ok0 (F : FunD K x qual params body scope dvs kws f fd) (S : FnScope N ps scope)
    (h : ∀ (cdv : Value) (A : Around) (outer : List Env) (s : Shared) (H : Hp) (E : XK), RoomG k (A.deeper (envOfC qual scope s.heap.objs.size f cdv)) → PSs (cxOf CX0 P w K mg base N qual scope f cdv A outer s H E).nox body (US K ⟨mg, w⟩ E ms)) :
    FnG P w K mg base CX0 (k + 1) f fd ps (spOf K ⟨mg, w⟩ ps.length (fnOf N.length ms)) :=
  .of F S (fun vs H Q E h => h.choose_spec.choose_spec.choose_spec.choose_spec.choose_spec.1) fun cdv A outer s H vs Q E _ hr hsp => ⟨_, (h cdv A outer s H E hr).nox, sp_start hsp⟩
end
theorem pass_any {X : Cx} {E : XK} : Passes CX0 X E := fun _ _ _ _ _ _ _ h => h.elim
section
variable {X : Cx} {CX : CXT} {k np : Nat} {f C : Addr} {fd : FuncData} {ps : List Str} {F : FN} {dvs : List V} {ds : List Value} {dx : List EV} {E : XK} {x m : Str} {p pos apos : Pos} {e o : Expr} {es : List Expr} {ma : ME} {t : MA}
theorem call_lift (hdx : ∀ Hd eh H, RpL X.K X.mw Hd eh H dx dvs) : ∀ σ H Q, U X.K X.mw E (mCall F np dx t) σ H Q → tCall (spOf X.K X.mw np F) dvs E (UA X.K X.mw E t) σ H Q := fun σ H Q ⟨Hd, es, eh, xc, q, R, xo, m, kk⟩ =>
  ⟨Hd, es, eh, xc, _, R, xo, m, fun eh1 H1 xs vs s1 R1 r1 ⟨hl, m1⟩ => ⟨Hd, eh1, xs ++ dx, xc, q, by rw [← hl]; exact (r1.append (hdx Hd eh1 H1)).length.symm, R1, r1.append (hdx _ _ _), xo.step s1, m1, fun eh2 H2 x v s2 => kk eh2 H2 x v (s1.trans s2)⟩⟩
theorem re_call (G : FnG X.prog X.w X.K X.mg X.base CX k f fd ps (spOf X.K X.mw np F)) (hr : RoomG k X.A) (hg : Gl X x) (hm : X.mg x = some (.ref f)) (hk : PySem.W.keepIn X.K (.ref f) = true) (hb : Binds X.K fd ps ds) (hd : Vals dvs ds) (hdx : ∀ Hd eh H, RpL X.K X.mw Hd eh H dx dvs) (hx : Passes CX X E)
    (ha : PA X (e :: es) (UA X.K X.mw E t)) (hdb : (x == ("__debug__" : Str)) = false := by decide) (he : starEach (e :: es) X.env = (false, eval e X.env) :: starEach es X.env := by rfl) (hpl : (backTo pos (starEach es X.env)).any (·.1) = false := by rfl) :
    PE X (.Call (.Name x p) (e :: es) [] pos) (U X.K X.mw E (mCall F np dx t)) :=
  PE.imp (G.call_ hr hg hm hk hb hd (Passes.at hx) ha hdb he hpl) (call_lift hdx)
/-- o.m(..): o a frozen object or a reference -/
def insE (eh : Eh) : EV → Option (Str × List (Str × EV))
  | .obj C fs => some (C, fs)
  | .ref a => match eh a with | some (.ins C fs) => some (C, fs) | _ => none
  | _ => none
theorem ins_of {K mg Hd eh H} (R : Rh K mg Hd eh H) {x : EV} {v : V} {C : Str} {fs : List (Str × EV)} (r : Rp K mg Hd eh H x v) (h : insE eh x = some (C, fs)) : ∃ a c dx us, v = .ref a ∧ mg C = some (.ref c) ∧ H a = some (.ins c dx us) ∧ RpF K mg Hd eh H fs us := by
  cases x with
  | obj C' fs' => cases h; obtain ⟨a, c, dx, us, e, m, h, _, t⟩ := r; exact ⟨a, c, dx, us, e, m, h, t⟩
  | ref a =>
    cases r
    simp only [insE] at h
    cases e : eh a with
    | none => rw [e] at h; cases h
    | some o =>
      rw [e] at h
      cases o with
      | ins C' fs' => cases h; obtain ⟨c, dx, us, m, h, t⟩ := R.ob a _ e; exact ⟨a, c, dx, us, rfl, m, h, t⟩
      | _ => cases h
  | _ => cases h
def mMeth (cn : Str) (m : Str) (F : FN) (n : Nat) (dx : List EV) (ma : ME) (t : MA) : ME := fun xc es eh q => ma xc es eh fun x eh1 => ∃ fs, insE eh1 x = some (cn, fs) ∧ fs.lookup m = none ∧
  t xc es eh1 fun xs eh2 => (x :: (xs ++ dx)).length = n ∧ F xc (x :: (xs ++ dx)) eh2 q
end
end VM

/-! VM6: built-ins by values: len, abs, min, max, sum, all, any, int, tuple, list, sorted; methods of lists; slices. -/
namespace VM
open PySem PySem.Spec PyProof.Rows L2

/-! ### calls of built-ins -/
def mCB (o : EOL) (t : MA) : ME := fun xc es eh q => t xc es eh fun xs eh1 => o xs eh1 q
section
variable {X : Cx} {E : XK} {x : Str} {p pos : Pos} {e : Expr} {es : List Expr} {t : MA} {id T : String} {o : EOL}
theorem cb_lift : ∀ σ H Q, U X.K X.mw E (mCB o t) σ H Q → tCB (UL X.K X.mw o) (UA X.K X.mw E t) σ H Q := fun σ H Q ⟨Hd, es, eh, xc, q, R, xo, m, k⟩ =>
  ⟨Hd, es, eh, xc, _, R, xo, m, fun eh1 H1 xs vs s1 R1 r1 m1 => ⟨Hd, eh1, xs, q, R1, r1, m1, fun eh2 H2 z w s2 => k eh2 H2 z w (s1.trans s2)⟩⟩
theorem re_cb (hc : CallR X (.builtin id) (UL X.K X.mw o)) (hg : Gl X x) (hm : X.mg x = none) (hv : bootBuiltins x = some (.builtin id)) (ha : PA X (e :: es) (UA X.K X.mw E t)) (hn : x ≠ "__name__" := by decide) (hdb : (x == ("__debug__" : Str)) = false := by decide)
    (he : starEach (e :: es) X.env = (false, eval e X.env) :: starEach es X.env := by rfl) (hpl : (backTo pos (starEach es X.env)).any (·.1) = false := by rfl) : PE X (.Call (.Name x p) (e :: es) [] pos) (U X.K X.mw E (mCB o t)) :=
  PE.imp (pe_callB hc hg hm hv ha hn hdb he hpl) cb_lift
theorem re_cty (hc : CallR X (.type T) (UL X.K X.mw o)) (hg : Gl X x) (hm : X.mg x = none) (hv : bootBuiltins x = some (.type T)) (ha : PA X (e :: es) (UA X.K X.mw E t)) (hn : x ≠ "__name__" := by decide) (hdb : (x == ("__debug__" : Str)) = false := by decide)
    (he : starEach (e :: es) X.env = (false, eval e X.env) :: starEach es X.env := by rfl) (hpl : (backTo pos (starEach es X.env)).any (·.1) = false := by rfl) : PE X (.Call (.Name x p) (e :: es) [] pos) (U X.K X.mw E (mCB o t)) :=
  PE.imp (pe_callTy hc hg hm hv ha hn hdb he hpl) cb_lift
end
theorem one_of {K mg Hd eh H} {x : EV} {vs : List V} (r : RpL K mg Hd eh H [x] vs) : ∃ v, vs = [v] ∧ Rp K mg Hd eh H x v := by
  obtain ⟨v, r', rfl, h, t⟩ := r; cases t; exact ⟨v, rfl, h⟩
theorem two_of {K mg Hd eh H} {x y : EV} {vs : List V} (r : RpL K mg Hd eh H [x, y] vs) : ∃ v u, vs = [v, u] ∧ Rp K mg Hd eh H x v ∧ Rp K mg Hd eh H y u := by
  obtain ⟨v, r', rfl, h, t⟩ := r; obtain ⟨u, rfl, h'⟩ := one_of t; exact ⟨v, u, rfl, h, h'⟩
def bLen : EOL := fun xs eh q => match xs with
  | [.str z] => z.length ≤ sizeLine ∧ q (.int z.length) eh
  | [x] => (∃ ys, seqE eh x = some ys ∧ q (.int ys.length) eh) ∨ ∃ kvs, dctE eh x = some kvs ∧ q (.int kvs.length) eh
  | _ => False
section
variable {X : Cx}
theorem cb_len : CallR X (.builtin "len") (UL X.K X.mw bLen) := by
  intro pins s σ H vs us Q I r ⟨Hd, eh, xs, q, R, rx, m, k⟩
  unfold bLen at m
  split at m
  · obtain ⟨v, rfl, h⟩ := one_of rx
    cases h
    exact call_len pins s σ H _ us Q I r ⟨.str _, _, rfl, ⟨m.1, rfl⟩, k eh H (.int _) (.int _) .refl R rfl m.2⟩
  · obtain ⟨v, rfl, h⟩ := one_of rx
    rcases m with ⟨ys, hy, m⟩ | ⟨kvs, hk, m⟩
    · obtain ⟨a, ws, rfl, hs, rr⟩ := seq_of R h hy
      rw [rr.length] at m
      exact call_len_seq pins s σ H _ us Q I r ⟨a, ws, rfl, hs, k eh H (.int _) (.int _) .refl R rfl m⟩
    · obtain ⟨a, ws, rfl, hs, rr⟩ := dct_of R h hk
      rw [rr.length] at m
      rw [Vals.ref1 r]
      exact d_len I hs fun t s' I' => ⟨.int _, H, I', ⟨_, rfl⟩, k eh H (.int _) (.int _) .refl R rfl m⟩
  · exact m.elim
def bAbs : EOL := fun xs eh q => match xs with
  | [.int i] => q (.int (if i < 0 then -i else i)) eh
  | _ => False
theorem cb_abs : CallR X (.builtin "abs") (UL X.K X.mw bAbs) := CallR.imp call_abs fun vs H Q ⟨Hd, eh, xs, q, R, rx, m, k⟩ => by
  unfold bAbs at m
  split at m
  · obtain ⟨v, rfl, h⟩ := one_of rx
    cases h
    exact ⟨_, rfl, k eh H (.int _) (.int _) .refl R rfl m⟩
  · exact m.elim
/-- the ints of a sequence -/
def intsE : List EV → Option (List Int)
  | [] => some []
  | .int i :: r => (intsE r).map (i :: ·)
  | _ :: _ => none
theorem intsE_of : ∀ {xs : List EV} {ns : List Int}, intsE xs = some ns → xs = ns.map .int
  | [], _, h => by cases h; rfl
  | x :: r, ns, h => by
    cases x with
    | int i =>
      simp only [intsE, Option.map_eq_some_iff] at h
      obtain ⟨ms, h, rfl⟩ := h
      rw [intsE_of h]; rfl
    | _ => cases h
theorem intsE_map (ns : List Int) : intsE (ns.map .int) = some ns := by
  induction ns with
  | nil => rfl
  | cons n ns ih => simp [intsE, ih]
def leastI : Int → List Int → Int
  | a, [] => a
  | a, b :: r => leastI (if b < a then b else a) r
def mostI : Int → List Int → Int
  | a, [] => a
  | a, b :: r => mostI (if a < b then b else a) r
theorem leastI_le : ∀ (r : List Int) (a : Int), leastI a r ≤ a ∧ ∀ b ∈ r, leastI a r ≤ b
  | [], a => ⟨Int.le_refl _, by simp⟩
  | b :: r, a => by
    obtain ⟨h1, h2⟩ := leastI_le r (if b < a then b else a)
    simp only [leastI]
    refine ⟨?_, fun c hc => ?_⟩
    · split at h1 <;> split <;> omega
    · rcases List.mem_cons.mp hc with rfl | hc
      · split at h1 <;> split <;> omega
      · exact h2 c hc
theorem leastI_mem : ∀ (r : List Int) (a : Int), leastI a r ∈ a :: r
  | [], a => by simp [leastI]
  | b :: r, a => by
    simp only [leastI]
    have := leastI_mem r (if b < a then b else a)
    split at this <;> split <;> first | omega | (simp at this ⊢; rcases this with h | h <;> simp [h])
theorem leastI_eq {a : Int} {r : List Int} {m : Int} (h1 : m ∈ a :: r) (h2 : ∀ b ∈ a :: r, m ≤ b) : m = leastI a r := by
  have := leastI_le r a
  have h3 := h2 _ (leastI_mem r a)
  rcases List.mem_cons.mp h1 with rfl | h
  · omega
  · have := this.2 _ h; omega
theorem mostI_le : ∀ (r : List Int) (a : Int), a ≤ mostI a r ∧ ∀ b ∈ r, b ≤ mostI a r
  | [], a => ⟨Int.le_refl _, by simp⟩
  | b :: r, a => by
    obtain ⟨h1, h2⟩ := mostI_le r (if a < b then b else a)
    simp only [mostI]
    refine ⟨?_, fun c hc => ?_⟩
    · split at h1 <;> split <;> omega
    · rcases List.mem_cons.mp hc with rfl | hc
      · split at h1 <;> split <;> omega
      · exact h2 c hc
theorem mostI_mem : ∀ (r : List Int) (a : Int), mostI a r ∈ a :: r
  | [], a => by simp [mostI]
  | b :: r, a => by
    simp only [mostI]
    have := mostI_mem r (if a < b then b else a)
    split at this <;> split <;> first | omega | (simp at this ⊢; rcases this with h | h <;> simp [h])
theorem mostI_eq {a : Int} {r : List Int} {m : Int} (h1 : m ∈ a :: r) (h2 : ∀ b ∈ a :: r, b ≤ m) : m = mostI a r := by
  have := mostI_le r a
  have h3 := h2 _ (mostI_mem r a)
  rcases List.mem_cons.mp h1 with rfl | h
  · omega
  · have := this.2 _ h; omega
def bMin : EOL := fun xs eh q => match xs with
  | [.int i, .int j] => q (.int (if j < i then j else i)) eh
  | [x] => ∃ ys n r, seqE eh x = some ys ∧ intsE ys = some (n :: r) ∧ q (.int (leastI n r)) eh
  | _ => False
def bMax : EOL := fun xs eh q => match xs with
  | [.int i, .int j] => q (.int (if i < j then j else i)) eh
  | [x] => ∃ ys n r, seqE eh x = some ys ∧ intsE ys = some (n :: r) ∧ q (.int (mostI n r)) eh
  | _ => False
theorem minOf_mem {a : Int} {r : List Int} : W.minOf a r ∈ a :: r ∧ ∀ b ∈ a :: r, W.minOf a r ≤ b := by
  have key : ∀ (r : List Int) (a : Int), W.minOf a r = leastI a r := by
    intro r
    induction r with
    | nil => intro a; rfl
    | cons b r ih =>
      intro a
      show W.minOf (if W.DatumOrd.lt b a = true then b else a) r = _
      rw [ih]
      simp only [leastI]
      congr 1
      show (if (decide (b < a)) = true then b else a) = _
      simp
  rw [key]
  exact ⟨leastI_mem r a, fun b hb => by
    rcases List.mem_cons.mp hb with rfl | hb
    · exact (leastI_le r _).1
    · exact (leastI_le r a).2 b hb⟩
theorem maxOf_mem {a : Int} {r : List Int} : W.maxOf a r ∈ a :: r ∧ ∀ b ∈ a :: r, b ≤ W.maxOf a r := by
  have key : ∀ (r : List Int) (a : Int), W.maxOf a r = mostI a r := by
    intro r
    induction r with
    | nil => intro a; rfl
    | cons b r ih =>
      intro a
      show W.maxOf (if W.DatumOrd.lt a b = true then b else a) r = _
      rw [ih]
      simp only [mostI]
      congr 1
      show (if (decide (a < b)) = true then b else a) = _
      simp
  rw [key]
  exact ⟨mostI_mem r a, fun b hb => by
    rcases List.mem_cons.mp hb with rfl | hb
    · exact (mostI_le r _).1
    · exact (mostI_le r a).2 b hb⟩
theorem cb_min {k : Nat} (hc : X.calm = true) (hr : RoomG k X.A) : CallR X (.builtin "min") (UL X.K X.mw bMin) := by
  have hu := hr.units
  intro pins s σ H vs us Q I r ⟨Hd, eh, xs, q, R, rx, m, k⟩
  unfold bMin at m
  split at m
  · obtain ⟨v, u, rfl, h, h'⟩ := two_of rx
    cases h; cases h'
    exact call_min2 hc pins s σ H _ us Q I r ⟨_, _, rfl, k eh H (.int _) (.int _) .refl R rfl m⟩
  · obtain ⟨v, rfl, h⟩ := one_of rx
    obtain ⟨ys, n, ns, hy, hn, m⟩ := m
    obtain ⟨a, ws, rfl, hs, rr⟩ := seq_of R h hy
    rw [intsE_of hn] at rr
    have ew := rr.ints
    subst ew
    rcases hs with hs | hs
    · exact cr_min hc pins s σ H _ us Q I r ⟨a, n :: ns, rfl, hs, by simp, fun z h1 h2 => by rw [leastI_eq h1 h2]; exact k eh H (.int _) (.int _) .refl R rfl m⟩
    · obtain ⟨its, rv, ht, _⟩ := I.tuple hs
      rw [Vals.ref1 r]
      have ri := rv.ints
      refine W.min_tuple_datum (α := Int) (x := n) (xs := ns) (I.ok.hd hc) (show s.heap.IsTuple a its.toArray from ht) (by simpa using W.HoldAll.of_ints ri) (by show X.A.units + 1 + 0 < cLine; omega) fun i v h' tk hv hh hk => ?_
      obtain ⟨t, rfl⟩ := W.int_of_holds hh
      refine ⟨.int (W.minOf n ns), H, I.kept hk, ⟨_, rfl⟩, ?_⟩
      rw [leastI_eq minOf_mem.1 minOf_mem.2]
      exact k eh H (.int _) (.int _) .refl R rfl m
  · exact m.elim
theorem cb_max {k : Nat} (hc : X.calm = true) (hr : RoomG k X.A) : CallR X (.builtin "max") (UL X.K X.mw bMax) := by
  have hu := hr.units
  intro pins s σ H vs us Q I r ⟨Hd, eh, xs, q, R, rx, m, k⟩
  unfold bMax at m
  split at m
  · obtain ⟨v, u, rfl, h, h'⟩ := two_of rx
    cases h; cases h'
    exact call_max2 hc pins s σ H _ us Q I r ⟨_, _, rfl, k eh H (.int _) (.int _) .refl R rfl m⟩
  · obtain ⟨v, rfl, h⟩ := one_of rx
    obtain ⟨ys, n, ns, hy, hn, m⟩ := m
    obtain ⟨a, ws, rfl, hs, rr⟩ := seq_of R h hy
    rw [intsE_of hn] at rr
    have ew := rr.ints
    subst ew
    rcases hs with hs | hs
    · exact cr_max hc pins s σ H _ us Q I r ⟨a, n :: ns, rfl, hs, by simp, fun z h1 h2 => by rw [mostI_eq h1 h2]; exact k eh H (.int _) (.int _) .refl R rfl m⟩
    · obtain ⟨its, rv, ht, _⟩ := I.tuple hs
      rw [Vals.ref1 r]
      have ri := rv.ints
      refine W.max_tuple_datum (α := Int) (x := n) (xs := ns) (I.ok.hd hc) (show s.heap.IsTuple a its.toArray from ht) (by simpa using W.HoldAll.of_ints ri) (by show X.A.units + 1 + 0 < cLine; omega) fun i v h' tk hv hh hk => ?_
      obtain ⟨t, rfl⟩ := W.int_of_holds hh
      refine ⟨.int (W.maxOf n ns), H, I.kept hk, ⟨_, rfl⟩, ?_⟩
      rw [mostI_eq maxOf_mem.1 maxOf_mem.2]
      exact k eh H (.int _) (.int _) .refl R rfl m
  · exact m.elim
def boolsE : List EV → Option (List Bool)
  | [] => some []
  | .bl i :: r => (boolsE r).map (i :: ·)
  | _ :: _ => none
theorem boolsE_of : ∀ {xs : List EV} {ns : List Bool}, boolsE xs = some ns → xs = ns.map .bl
  | [], _, h => by cases h; rfl
  | x :: r, ns, h => by
    cases x with
    | bl i =>
      simp only [boolsE, Option.map_eq_some_iff] at h
      obtain ⟨ms, h, rfl⟩ := h
      rw [boolsE_of h]; rfl
    | _ => cases h
theorem boolsE_map (ns : List Bool) : boolsE (ns.map .bl) = some ns := by
  induction ns with
  | nil => rfl
  | cons n ns ih => simp [boolsE, ih]
def bAll : EOL := fun xs eh q => match xs with
  | [x] => ∃ ys ns, lstE eh x = some ys ∧ boolsE ys = some ns ∧ q (.bl (ns.all id)) eh
  | _ => False
theorem cb_all (hc : X.calm = true) : CallR X (.builtin "all") (UL X.K X.mw bAll) := CallR.imp (cr_all hc) fun vs H Q ⟨Hd, eh, xs, q, R, rx, m, k⟩ => by
  unfold bAll at m
  split at m
  · obtain ⟨v, rfl, h⟩ := one_of rx
    obtain ⟨ys, ns, hy, hn, m⟩ := m
    obtain ⟨a, ws, rfl, hs, rr⟩ := lst_of R h hy
    rw [boolsE_of hn] at rr
    have ew := rr.bools
    subst ew
    exact ⟨a, ns, rfl, .inl (.inl hs), k eh H (.bl _) (.bl _) .refl R rfl m⟩
  · exact m.elim
def bInt : EOL := fun xs eh q => match xs with
  | [.int i] => q (.int i) eh
  | [.bl b] => q (.int (if b then 1 else 0)) eh
  | _ => False
theorem cb_int : CallR X (.type "int") (UL X.K X.mw bInt) := CallR.imp call_int1 fun vs H Q ⟨Hd, eh, xs, q, R, rx, m, k⟩ => by
  unfold bInt at m
  split at m
  · obtain ⟨v, rfl, h⟩ := one_of rx
    cases h
    exact .inl ⟨_, rfl, k eh H (.int _) (.int _) .refl R rfl m⟩
  · obtain ⟨v, rfl, h⟩ := one_of rx
    cases h
    exact .inr ⟨_, rfl, k eh H (.int _) (.int _) .refl R rfl m⟩
  · exact m.elim
/-- tuple(x); list(x), frozen or explicit -/
def bTuple : EOL := fun xs eh q => match xs with
  | [.tup ys] => q (.tup ys) eh
  | [x] => ∃ ys, seqE eh x = some ys ∧ q (.tup ys) eh
  | _ => False
theorem cb_tuple : CallR X (.type "tuple") (UL X.K X.mw bTuple) := CallR.imp call_tuple_of fun vs H Q ⟨Hd, eh, xs, q, R, rx, m, k⟩ => by
  have key : ∀ {x : EV} {ys : List EV}, RpL X.K X.mw Hd eh H [x] vs → seqE eh x = some ys → q (.tup ys) eh → ∃ p ys, vs = [.ref p] ∧ ((SqL X.K H p ys ∧ ∀ l, H l = none → Q (.ref l) (upd H l (.tup ys))) ∨ (SqT X.K H p ys ∧ Q (.ref p) H)) := fun {x ys} rx hy m => by
    obtain ⟨v, rfl, h⟩ := one_of rx
    obtain ⟨a, ws, rfl, hs, rr⟩ := seq_of R h hy
    refine ⟨a, ws, rfl, ?_⟩
    rcases hs with hs | hs
    · exact .inl ⟨hs, fun l hl => k eh _ (.tup ys) (.ref l) (.newF hl) (R.newF hl) ⟨l, ws, rfl, .inl (.inl upd_same), rr.step (.newF hl)⟩ m⟩
    · exact .inr ⟨hs, k eh H (.tup ys) (.ref a) .refl R ⟨a, ws, rfl, hs, rr⟩ m⟩
  unfold bTuple at m
  split at m
  · exact key rx rfl m
  · obtain ⟨ys, hy, m⟩ := m; exact key rx hy m
  · exact m.elim
def bListR : EOL := fun xs eh q => match xs with
  | [x] => ∃ ys, seqE eh x = some ys ∧ ∀ p, eh p = none → q (.ref p) (eupd eh p (some (.lst ys)))
  | _ => False
theorem cb_listR : CallR X (.type "list") (UL X.K X.mw bListR) := CallR.imp call_list_of fun vs H Q ⟨Hd, eh, xs, q, R, rx, m, k⟩ => by
  unfold bListR at m
  split at m
  · obtain ⟨ys, hy, m⟩ := m
    obtain ⟨v, rfl, h⟩ := one_of rx
    obtain ⟨a, ws, rfl, hs, rr⟩ := seq_of R h hy
    exact ⟨a, ws, rfl, hs, fun l hl => k _ _ (.ref l) (.ref l) (.new hl) (R.new (eo := .lst ys) hl ⟨ws, upd_same, rr.step (.new hl)⟩) rfl (m l (R.fresh hl))⟩
  · exact m.elim
end

/-! ### methods of lists, texts, dicts -/
def isLst (eh : Eh) (x : EV) : Prop := ∃ xs, lstE eh x = some xs
theorem isLst_ty {K mg Hd eh H x v} (R : Rh K mg Hd eh H) (r : Rp K mg Hd eh H x v) (h : isLst eh x) : tyV K "list" v H := by
  obtain ⟨xs, h⟩ := h
  obtain ⟨a, vs, rfl, e, _⟩ := lst_of R r h
  exact .inl ⟨rfl, vs, .inl (.inl e)⟩
def mBM (c : Eh → EV → Prop) (o : EV → EOL) (ma : ME) (t : MA) : ME := fun xc es eh q => ma xc es eh fun x eh1 => c eh1 x ∧ t xc es eh1 fun xs eh2 => o x xs eh2 q
section
variable {X : Cx} {E : XK} {o e : Expr} {es : List Expr} {ma : ME} {t : MA} {name : Str} {apos cpos : Pos} {T id : String} {r : EV → EOL} {c : Eh → EV → Prop}
theorem re_bm (pa : PlainAttrs T) (slot : Slot T name id) (hty : typeOf (.builtin id) = pure (.type "method_descriptor")) (hm : MtR X id (UM X.K X.mw r)) (hc : ∀ {Hd eh H x v}, Rh X.K X.mw Hd eh H → Rp X.K X.mw Hd eh H x v → c eh x → tyV X.K T v H)
    (ho : PE X o (U X.K X.mw E ma)) (ha : PA X (e :: es) (UA X.K X.mw E t))
    (hbase : attributeBase o name X.env (eval o X.env) = eval o X.env := by rfl)
    (hfew : ((backTo cpos (starEach (e :: es) X.env)).all (fun x => !x.1) && (backToKw cpos (keywordEach [] X.env)).all (fun x => x.1.isSome)
      && decide ((e :: es).length + ([] : List Keyword).length + (if ([] : List Keyword).isEmpty then 0 else 1) < 30)) = true := by rfl)
    (hline : (apos.endLine == cpos.line) = true := by rfl) (hs : starEach (e :: es) X.env = (false, eval e X.env) :: starEach es X.env := by rfl) (hplain : (backTo cpos (starEach es X.env)).any (·.1) = false := by rfl) :
    PE X (.Call (.Attribute o name apos) (e :: es) [] cpos) (U X.K X.mw E (mBM c r ma t)) :=
  PE.imp (pe_bm pa slot hty hm ho ha hbase hfew hline hs hplain) fun σ H Q ⟨Hd, es, eh, xc, q, R, xo, m, k⟩ => ⟨Hd, es, eh, xc, _, R, xo, m, fun eh1 H1 x v s1 R1 r1 ⟨hx, m1⟩ => ⟨hc R1 r1 hx, Hd, es, eh1, xc, _, R.step s1 R1, xo.step s1, m1, fun eh2 H2 xs vs s2 R2 r2 m2 =>
    ⟨Hd, eh2, x, xs, q, R2, r1.step s2, r2, m2, fun eh3 H3 z w s3 => k eh3 H3 z w (s1.trans (s2.trans s3))⟩⟩⟩
theorem re_bm0 (pa : PlainAttrs T) (slot : Slot T name id) (hty : typeOf (.builtin id) = pure (.type "method_descriptor")) (hm : MtR X id (UM X.K X.mw r)) (hc : ∀ {Hd eh H x v}, Rh X.K X.mw Hd eh H → Rp X.K X.mw Hd eh H x v → c eh x → tyV X.K T v H)
    (ho : PE X o (U X.K X.mw E ma)) (hbase : attributeBase o name X.env (eval o X.env) = eval o X.env := by rfl) (hline : (apos.endLine == cpos.line) = true := by rfl) : PE X (.Call (.Attribute o name apos) [] [] cpos) (U X.K X.mw E (mBM c r ma aNil)) :=
  PE.imp (pe_bm0 pa slot hty hm ho hbase hline) fun σ H Q ⟨Hd, es, eh, xc, q, R, xo, m, k⟩ => ⟨Hd, es, eh, xc, _, R, xo, m, fun eh1 H1 x v s1 R1 r1 ⟨hx, m1⟩ => ⟨hc R1 r1 hx,
    Hd, eh1, x, [], q, R1, r1, .nil, m1, fun eh3 H3 z w s3 => k eh3 H3 z w (s1.trans s3)⟩⟩
def oAppend : EV → EOL := fun x xs eh q => match x, xs with
  | .ref a, [y] => ∃ ys, eh a = some (.lst ys) ∧ ys.length < sizeLine ∧ q .non (eupd eh a (some (.lst (ys ++ [y]))))
  | _, _ => False
theorem refl_lst {K mg Hd eh H} {a : Addr} {xs : List EV} (R : Rh K mg Hd eh H) (h : eh a = some (.lst xs)) : ∃ vs, H a = some (.lst vs) ∧ RpL K mg Hd eh H xs vs := R.ob a _ h
theorem write_lst {K mg Hd eh H} {a : Addr} {xs ys : List EV} {vs : List V} (R : Rh K mg Hd eh H) (h : eh a = some (.lst xs)) (r : RpL K mg Hd eh H ys vs) : Step eh H (eupd eh a (some (.lst ys))) (upd H a (.lst vs)) ∧ Rh K mg Hd (eupd eh a (some (.lst ys))) (upd H a (.lst vs)) :=
  ⟨.write R h, R.write h ⟨vs, upd_same, r.step (.write R h)⟩⟩
theorem mt_append_e : MtR X "list.append" (UM X.K X.mw oAppend) := by
  intro pins s σ H v vs u us Q I r1 r2 ⟨Hd, eh, x, xs, q, R, rx, rxs, m, k⟩
  unfold oAppend at m
  split at m
  · cases rx
    obtain ⟨w, rfl, rw'⟩ := one_of rxs
    obtain ⟨ys, he, hl, m⟩ := m
    obtain ⟨vs, hv, rv⟩ := refl_lst R he
    obtain ⟨st, R'⟩ := write_lst R he (rv.append (.one rw'))
    exact mt_append pins s σ H _ _ u us Q I r1 r2 ⟨_, vs, w, rfl, rfl, hv, by rw [← rv.length]; exact hl, k _ _ .non .non st R' rfl m⟩
  · exact m.elim
def oPop : EV → EOL := fun x xs eh q => match x, xs with
  | .ref a, [] => ∃ ys y, eh a = some (.lst (ys ++ [y])) ∧ q y (eupd eh a (some (.lst ys)))
  | .ref a, [.int i] => ∃ ys j y, eh a = some (.lst ys) ∧ -(2 ^ 63) ≤ i ∧ i < 2 ^ 63 ∧ ixN ys.length i = some j ∧ ys[j]? = some y ∧ q y (eupd eh a (some (.lst (ys.eraseIdx j))))
  | _, _ => False
theorem mt_pop_e : MtR X "list.pop" (UM X.K X.mw oPop) := by
  intro pins s σ H v vs u us Q I r1 r2 ⟨Hd, eh, x, xs, q, R, rx, rxs, m, k⟩
  unfold oPop at m
  split at m
  · cases rx; cases rxs
    obtain ⟨ys, y, he, m⟩ := m
    obtain ⟨vs, hv, rv⟩ := refl_lst R he
    obtain ⟨w, hw, rw'⟩ := rv.get (i := ys.length) (x := y) (by simp)
    have hl := rv.length
    simp at hl
    have rd := rv.dropLast
    rw [List.dropLast_concat] at rd
    obtain ⟨st, R'⟩ := write_lst R he rd
    exact mt_pop pins s σ H _ _ u us Q I r1 r2 ⟨_, vs, w, rfl, rfl, hv, by rw [← hl]; exact hw, k _ _ y w st R' (rw'.step st) m⟩
  · cases rx
    obtain ⟨w, rfl, rw'⟩ := one_of rxs
    cases rw'
    obtain ⟨ys, j, y, he, h1, h2, h3, h4, m⟩ := m
    obtain ⟨vs, hv, rv⟩ := refl_lst R he
    obtain ⟨w, hw, rw'⟩ := rv.get h4
    obtain ⟨st, R'⟩ := write_lst R he (rv.eraseIdx j)
    exact mt_popAt pins s σ H _ _ u us Q I r1 r2 ⟨_, vs, _, j, w, rfl, rfl, hv, h1, h2, by rw [← rv.length]; exact (ixN_seq h3).1, hw, k _ _ y w st R' (rw'.step st) m⟩
  · exact m.elim
def oExtend : EV → EOL := fun x xs eh q => match x, xs with
  | .ref a, [y] => ∃ ys zs, eh a = some (.lst ys) ∧ lstE eh y = some zs ∧ ys.length + zs.length ≤ sizeLine ∧ q .non (eupd eh a (some (.lst (ys ++ zs))))
  | _, _ => False
theorem mt_extend_e : MtR X "list.extend" (UM X.K X.mw oExtend) := by
  intro pins s σ H v vs u us Q I r1 r2 ⟨Hd, eh, x, xs, q, R, rx, rxs, m, k⟩
  unfold oExtend at m
  split at m
  · cases rx
    obtain ⟨w, rfl, rw'⟩ := one_of rxs
    obtain ⟨ys, zs, he, hz, hl, m⟩ := m
    obtain ⟨vs, hv, rv⟩ := refl_lst R he
    obtain ⟨b, ws, rfl, hb, rb⟩ := lst_of R rw' hz
    obtain ⟨st, R'⟩ := write_lst R he (rv.append rb)
    exact mt_extend pins s σ H _ _ u us Q I r1 r2 ⟨_, b, vs, ws, rfl, rfl, hv, hb, by rw [← rv.length, ← rb.length]; exact hl, k _ _ .non .non st R' rfl m⟩
  · exact m.elim
/-! ### slices of lists, tuples, texts -/
def mNo : XC → Es → Eh → (Option Int → Eh → Prop) → Prop := fun _ _ eh q => q none eh
def mPt (m : ME) : XC → Es → Eh → (Option Int → Eh → Prop) → Prop := fun xc es eh q => m xc es eh fun x eh1 => match x with | .int i => q (some i) eh1 | _ => False
def UO (K : PySem.W.Frag) (mg : MW) (E : XK) (m : XC → Es → Eh → (Option Int → Eh → Prop) → Prop) : TO := fun σ H Q => ∃ Hd es eh xc q, Rl K mg Hd eh H es σ ∧ XOk K mg E Hd eh H xc ∧ m xc es eh q ∧
  ∀ eh' H' b, Step eh H eh' H' → Rh K mg Hd eh' H' → q b eh' → Q b H'
theorem PO.imp {X : Cx} {e : Option Expr} {t t' : TO} (h : PO X e t) (i : ∀ σ H Q, t' σ H Q → t σ H Q) : PO X e t' := ⟨fun pins s σ H Q I w => h.run pins s σ H Q I (i σ H Q w)⟩
theorem ro_no : PO X none (UO X.K X.mw E mNo) := PO.imp po_none fun σ H Q ⟨Hd, es, eh, xc, q, R, xo, m, k⟩ => k eh H none .refl R.obj m
theorem ro_some (h : PE X e (U X.K X.mw E ma)) : PO X (some e) (UO X.K X.mw E (mPt ma)) := PO.imp (po_some h) fun σ H Q ⟨Hd, es, eh, xc, q, R, xo, m, k⟩ => ⟨Hd, es, eh, xc, _, R, xo, m, fun eh1 H1 x v s1 R1 r1 m1 => by
  cases x with
  | int i => cases r1; exact ⟨i, rfl, k eh1 H1 (some i) s1 R1 m1⟩
  | _ => exact m1.elim⟩
def cutE (xs : List EV) (lo hi : Option Int) : List EV := (xs.drop (HT.sIx xs.length 0 lo)).take (HT.sIx xs.length xs.length hi - HT.sIx xs.length 0 lo)
abbrev EOS := EV → Option Int → Option Int → Eh → KE → Prop
def USl (K : PySem.W.Frag) (mg : MW) (o : EOS) : V → Option Int → Option Int → Hp → VK → Prop := fun v lo hi H Q => ∃ Hd eh x q, Rh K mg Hd eh H ∧ Rp K mg Hd eh H x v ∧ o x lo hi eh q ∧
  ∀ eh' H' z w, Step eh H eh' H' → Rh K mg Hd eh' H' → Rp K mg Hd eh' H' z w → q z eh' → Q w H'
def mSl (o : EOS) (ma : ME) (lo hi : XC → Es → Eh → (Option Int → Eh → Prop) → Prop) : ME := fun xc es eh q => ma xc es eh fun x eh1 => lo xc es eh1 fun l eh2 => hi xc es eh2 fun h eh3 => o x l h eh3 q
theorem re_slice {lo hi : Option Expr} {ml mh} {os : EOS} {pos p2 : Pos} (hr : SlR X (USl X.K X.mw os)) (he : PE X e (U X.K X.mw E ma)) (hl : PO X lo (UO X.K X.mw E ml)) (hu : PO X hi (UO X.K X.mw E mh)) : PE X (.Subscript e (.Slice lo hi none p2) pos) (U X.K X.mw E (mSl os ma ml mh)) :=
  PE.imp (pe_slice hr he hl hu) fun σ H Q ⟨Hd, es, eh, xc, q, R, xo, m, k⟩ => ⟨Hd, es, eh, xc, _, R, xo, m, fun eh1 H1 x v s1 R1 r1 m1 => ⟨Hd, es, eh1, xc, _, R.step s1 R1, xo.step s1, m1, fun eh2 H2 l s2 R2 m2 =>
    ⟨Hd, es, eh2, xc, _, (R.step s1 R1).step s2 R2, (xo.step s1).step s2, m2, fun eh3 H3 h s3 R3 m3 => ⟨Hd, eh3, x, q, R3, (r1.step s2).step s3, m3, fun eh4 H4 z w s4 => k eh4 H4 z w (s1.trans (s2.trans (s3.trans s4)))⟩⟩⟩⟩
/-- frozen: lists (also the script), tuples; a text -/
def oSlice : EOS := fun x lo hi eh q => match x with
  | .str z => z.length ≤ sizeLine ∧ q (.str (cutS z lo hi)) eh
  | .tup xs => (xs = cutE xs lo hi ∨ xs ≠ cutE xs lo hi) ∧ q (.tup (cutE xs lo hi)) eh
  | x => ∃ xs, seqE eh x = some xs ∧ q (.lst (cutE xs lo hi)) eh
end
end VM

/-! VM7: sorted(xs), sorted(xs, key=lambda x: x[0]); slices. -/
namespace VM
open PySem PySem.Spec PyProof.Rows L2

theorem extN_step {eh : Eh} {H H' : Hp} (e : LamX.ExtN H H') : Step eh H eh H' :=
  ⟨fun a o h n t => ⟨e a o h t, n⟩, fun a xs h => e a _ h (fun _ z => by cases z), fun a o u h => e a _ h (fun _ z => by cases z)⟩
theorem extN_rh {K mg Hd eh} {H H' : Hp} (R : Rh K mg Hd eh H) (e : LamX.ExtN H H') (t : LamX.Tabs (tabT K) H') : Rh K mg Hd eh H' :=
  ⟨t, fun a o h => by
    obtain ⟨u, hu, _, _, _, ht, _⟩ := (R.ob a o h).some
    exact (R.ob a o h).step' (extN_step e) ((e a u hu ht).trans hu.symm), fun a z => by
    obtain ⟨⟨o, ho⟩, n⟩ := R.hd a z
    exact ⟨⟨o, e a _ ho (fun _ z => by cases z)⟩, n⟩⟩

/-! ### sorted by the text at place 0 -/
def key0 : EV → PyData
  | .tup (.str s :: _) => .str s
  | _ => .none
def isK0 : EV → Bool
  | .tup (.str _ :: _) => true
  | _ => false
def sortK0 (xs : List EV) : List EV := xs.mergeSort (W.dataLe false key0)
def mSortK0 (ma : ME) : ME := fun xc es eh q => ma xc es eh fun x eh1 => ∃ xs, lstE eh1 x = some xs ∧ xs.all isK0 = true ∧ q (.lst (sortK0 xs)) eh1
theorem eachIs_zip {α β : Type} {R : α → β → Prop} : ∀ {as : List α} {bs : List β}, as.length = bs.length → (∀ (i : Nat) a b, as[i]? = some a → bs[i]? = some b → R a b) → W.EachIs R as bs
  | [], [], _, _ => .nil
  | a :: as, b :: bs, hl, h => .cons (h 0 a b rfl rfl) (eachIs_zip (by simpa using hl) fun i a b e e' => h (i + 1) a b (by simpa using e) (by simpa using e'))
  | [], _ :: _, hl, _ => by simp at hl
  | _ :: _, [], hl, _ => by simp at hl
theorem eachIs_get {α β : Type} {R : α → β → Prop} : ∀ {as : List α} {bs : List β}, W.EachIs R as bs → ∀ (i : Nat) b, bs[i]? = some b → ∃ a, as[i]? = some a ∧ R a b
  | _, _, .nil, _, _, h => by simp at h
  | _, _, .cons r t, 0, b, h => by simp at h; subst h; exact ⟨_, rfl, r⟩
  | _, _, .cons r t, i + 1, b, h => by simpa using eachIs_get t i b (by simpa using h)
theorem each_vals {Rr : V × EV → Prop} : ∀ {us : List Value} {bs : List (V × EV)}, W.EachIs (fun u b => RelV b.1 u ∧ Rr b) us bs → Vals (bs.map (·.1)) us
  | _, _, .nil => .nil
  | _, _, .cons r t => .cons r.1 (each_vals t)
theorem rpL_of {K mg Hd eh H} : ∀ {bs : List (V × EV)}, (∀ b ∈ bs, Rp K mg Hd eh H b.2 b.1) → RpL K mg Hd eh H (bs.map (·.2)) (bs.map (·.1))
  | [], _ => rfl
  | b :: bs, h => .cons (h b (by simp)) (rpL_of fun c hc => h c (by simp [hc]))
theorem zip_fst {α β : Type} : ∀ {as : List α} {bs : List β}, as.length = bs.length → (as.zip bs).map (·.1) = as
  | [], [], _ => rfl
  | a :: as, b :: bs, h => by simp [zip_fst (as := as) (bs := bs) (by simpa using h)]
  | [], _ :: _, h => by simp at h
  | _ :: _, [], h => by simp at h
theorem zip_snd {α β : Type} : ∀ {as : List α} {bs : List β}, as.length = bs.length → (as.zip bs).map (·.2) = bs
  | [], [], _ => rfl
  | a :: as, b :: bs, h => by simp [zip_snd (as := as) (bs := bs) (by simpa using h)]
  | [], _ :: _, h => by simp at h
  | _ :: _, [], h => by simp at h
section
variable {X : Cx} {E : XK} {e : Expr} {ma : ME}
/-- what a call of the lambda gives -/
theorem lam0_call {pins : List (Addr × Obj)} {σ : L2.St} {H : Hp} {s : Shared} (I : Inv X pins σ H s) {f c' : Addr} {q : Str} {params : Arguments} {scope : Scope} {cl : List (Str × Addr)} {pm ctv : Value} {x : Str} {p1 p2 p3 : Pos} {j : Nat}
    (hf : s.heap.get? f = some (PySem.W.kla_obj "<lambda>" q params (.Subscript (.Name x p1) (.Constant (.int 0) j p2) p3) scope cl pm c' ctv)) (hc : H c' = some (LamX.CodeO c' q))
    (hkind : scope.kind = .function) (hco : scope.isCoroutine = false) (hgen : scope.isGenerator = false) (hcell : ∀ y ∈ scope.names, y.2 ≠ .cell) (hx : scope.names.lookup x = some .local) (hdb : (x == ("__debug__" : Str)) = false)
    (hbind : ∀ (v : Value), bindArgs (PySem.W.kla_fn "<lambda>" q params (.Subscript (.Name x p1) (.Constant (.int 0) j p2) p3) scope cl pm (.ref c') ctv) ⟨[v], []⟩ = pure [(x, v)])
    {t : Addr} {z : Str} {ws : List V} (ht : SqT X.K H t (.str z :: ws)) {A : Around} (hA : A.depth < recursionLimit) {h : Heap} {tk : Nat} (hk : ∀ b o, s.heap.get? b = some o → h.get? b = some o) :
    wpAny (model X.prog X.w) A (call (.ref f) [.ref t]) (PySem.W.KeyPure (.str z) { s with heap := h, toks := tk }) (fun _ _ => False) { s with heap := h, toks := tk } := by
  have hrec : h.CodeRec (.ref c') q := by
    obtain ⟨⟨oc, vs, tq, e1, e2, e3⟩, _⟩ := I.hok c' _ hc
    exact ⟨c', oc, vs, tq, rfl, hk _ _ e1, e2, e3⟩
  obtain ⟨its, rv, tup, _⟩ := I.tuple ht
  cases rv with
  | cons r rr =>
    rename_i u0 us
    obtain ⟨tz, rfl⟩ := r
    refine wpAny_call ?_
    refine PySem.W.kla_callFunE hA (hk _ _ hf) rfl hco hgen rfl hrec ?_
    rw [hbind]
    refine wpAny_pure (wpAny_newFunctionEnv hcell (fun y hy => by simp at hy; subst hy; exact hx) (fun h₁ hns hsb => ⟨(I.nolimit.keeps hk).fresh _ hsb, ?_⟩) hkind)
    have kp : ∀ b o, h.get? b = some o → h₁.get? b = some o := fun b o e => hsb.extBut b o (Nat.ne_of_lt (Heap.lt_size e)) (Heap.get?_push_of_some _ e)
    refine PySem.W.kla_codeExpr ?_
    refine Subscript_ (wpAny_Name (wpAny_loadName_local (v := .ref t) hkind hx hns (by simp) ?_) hdb)
    refine wpAny_Constant_int ?_
    have tup1 : IsTup h₁ t (Value.str z tz :: us).toArray := by
      obtain ⟨o, a, b, n, c⟩ := tup
      exact ⟨o, kp _ _ (hk _ _ a), b, n, c⟩
    exact subscriptTail_builtinR (x := Value.str z tz) tup1.typeIs slot_tuple_getitem.lookup
      (getItem_tuple (j := 0) (Q := fun r s' => r = Value.str z tz ∧ _) tup1 (by omega) (by omega) (by simp [seqIndex?]) (by simp) ⟨rfl, ⟨_, _, rfl, fun b o e => kp b o e, .str z tz⟩⟩) (by intros; rfl)
theorem mem_get {α : Type} {l : List α} {a : α} (h : a ∈ l) : ∃ i : Nat, l[i]? = some a := by
  obtain ⟨i, hi, e⟩ := List.getElem_of_mem h
  exact ⟨i, by rw [List.getElem?_eq_getElem hi, e]⟩
theorem isK0_of {x : EV} (h : isK0 x = true) : ∃ s r, x = .tup (.str s :: r) := by
  unfold isK0 at h
  split at h
  · exact ⟨_, _, rfl⟩
  · cases h
theorem re_sortK0 {k : Nat} {c P : Addr} {x : Str} {p p1 p2 p3 p4 p5 pos : Pos} {j : Nat} {params : Arguments} {scope : Scope} (hg : Gl X "sorted") (hm : X.mg "sorted" = none) (he : PE X e (U X.K X.mw E ma)) (hr : RoomG k X.A) (TB : LamX.TabB X.base X.mg c P) (hcode : X.env.code = .ref c)
    (hin : (P, X.env.qual ++ "<lambda>") ∈ tabT X.K) (hu : ∀ p ∈ tabT X.K, p.1 = P → p.2 = X.env.qual ++ "<lambda>") (hdef : defaultsOf params X.env = ([], [])) (hfree : ∀ y ∈ scope.names, y.2 = .free → ∃ c, X.env.cells.lookup y.1 = some c)
    (hkind : scope.kind = .function) (hco : scope.isCoroutine = false) (hgen : scope.isGenerator = false) (hcell : ∀ y ∈ scope.names, y.2 ≠ .cell) (hx : scope.names.lookup x = some .local) (hdb : (x == ("__debug__" : Str)) = false)
    (hbind : ∀ (q : Str) (cl : List (Str × Addr)) (pm cv ctv v : Value), bindArgs (PySem.W.kla_fn "<lambda>" q params (.Subscript (.Name x p1) (.Constant (.int 0) j p2) p3) scope cl pm cv ctv) ⟨[v], []⟩ = pure [(x, v)])
    (he0 : starEach [e] X.env = (false, eval e X.env) :: starEach [] X.env := by rfl) (he1 : backTo pos (starEach [e] X.env) = (false, eval e X.env) :: backTo pos (starEach [] X.env) := by rfl) (hpl : (backTo pos (starEach [e] X.env)).any (·.1) = false := by rfl) :
    PE X (.Call (.Name "sorted" p) [e] [⟨some "key", .Lambda params (.Subscript (.Name x p1) (.Constant (.int 0) j p2) p3) scope p4, p5⟩] pos) (U X.K X.mw E (mSortK0 ma)) := by
  refine ⟨fun pins s σ H Q I h => ?_⟩
  refine wpAny_Call_Name_kw (ld_blt (u := .builtin "sorted") I hg hm (by rfl) ?_ (by decide))
  obtain ⟨Hd, es, eh, xc, q, R, xo, m, kk⟩ := h
  refine PyProof.Rows.callWith_kw (PyProof.Rows.args_cons (thn (he.run pins s σ H _ I ⟨Hd, es, eh, xc, _, R, xo, m, fun eh1 H1 x1 v1 s1 R1 r1 m1 => (⟨eh1, x1, s1, R1, r1, m1⟩ : ∃ eh1 x1, Step eh H eh1 H1 ∧ Rh X.K X.mw Hd eh1 H1 ∧ Rp X.K X.mw Hd eh1 H1 x1 v1 ∧ ∃ xs, lstE eh1 x1 = some xs ∧ xs.all isK0 = true ∧ q (.lst (sortK0 xs)) eh1)⟩) fun v1 s1 ⟨x1, H1, I1, rr, eh1, y1, t1, R1, r1, xs, hl, hk, m1⟩ => PyProof.Rows.args_nil ?_) he0) he1 hpl (by rfl) (by rfl)
  refine PyProof.Rows.kws_cons (LamX.lam_make2 I1 TB hcode hin hu R1.tb hdef hfree fun f c' pm ctv H2 s2 I2 ex2 tb2 hf nf _ hc => PyProof.Rows.kws_nil ?_)
  show wpAny _ _ (call (.builtin "sorted") [v1] [(Str.ofString "key", .ref f)]) _ _ _
  have R2 := extN_rh R1 ex2 tb2
  have t2 := extN_step (eh := eh1) ex2
  obtain ⟨a, vs, rfl, ha, rx⟩ := lst_of R2 (r1.step t2) hl
  cases rr
  obtain ⟨its, rv, hls, hz⟩ := I2.list (.inl (.inl ha))
  have hlen : vs.length = xs.length := rx.length.symm
  have hzf := zip_fst (as := vs) (bs := xs) hlen
  have hzs := zip_snd (as := vs) (bs := xs) hlen
  have kpos : ∀ b ∈ vs.zip xs, ∃ s r, b.2 = .tup (.str s :: r) := fun b hb => isK0_of (List.all_eq_true.mp hk b.2 (List.of_mem_zip hb).2)
  have kdat : ∀ b ∈ vs.zip xs, ∃ s, key0 b.2 = .str s := fun b hb => by obtain ⟨s, r, e⟩ := kpos b hb; exact ⟨s, by rw [e]; rfl⟩
  have hea : W.EachIs (fun (u : Value) (b : V × EV) => RelV b.1 u ∧ Rp X.K X.mw Hd eh1 H2 b.2 b.1) its (vs.zip xs) := by
    refine eachIs_zip (by rw [List.length_zip, ← rv.length, hlen, Nat.min_self]) fun i u b hu hb => ?_
    rw [List.getElem?_zip_eq_some] at hb
    obtain ⟨x', hx', r'⟩ := rx.get' hb.1
    rw [hb.2] at hx'; cases hx'
    obtain ⟨u', hu', rr'⟩ := rv.get hb.1
    rw [hu] at hu'; cases hu'
    exact ⟨rr', r'⟩
  refine PySem.W.sorted_key_data (β := V × EV) (b := false) (fun b => key0 b.2) hls.isList hea ?_ ?_ (by rw [List.length_zip, hlen, Nat.min_self]; omega) ?_ (ksk_s1 _ _) (fun _ => ksk_l1 _ _) (fun _ => ksk_t1 _ _) ?_ ?_
  · intro d hd d' hd'
    obtain ⟨b, hb, rfl⟩ := List.mem_map.mp hd
    obtain ⟨b', hb', rfl⟩ := List.mem_map.mp hd'
    obtain ⟨s, e⟩ := kdat b hb
    obtain ⟨s', e'⟩ := kdat b' hb'
    rw [e, e']; rfl
  · refine .inr fun d hd => ?_
    obtain ⟨b, hb, rfl⟩ := List.mem_map.mp hd
    obtain ⟨s, e⟩ := kdat b hb
    rw [e]; exact ⟨by simp, by simp⟩
  · intro b hb
    obtain ⟨s, e⟩ := kdat b hb
    rw [e]
    have := hr.units
    show _ + 2 + 0 < _
    omega
  · intro v b hR hb h tk hkp
    obtain ⟨s, r, e⟩ := kpos b hb
    have hr2 := hR.2
    rw [e] at hr2 ⊢
    obtain ⟨t, ws, e1, sq, rw1⟩ := hr2
    obtain ⟨z, ws', rfl, e2, _⟩ := rw1
    cases e2
    have hv := hR.1
    rw [e1] at hv
    cases hv
    exact lam0_call I2 hf hc hkind hco hgen hcell hx hdb (fun v => hbind _ _ _ _ _ v) sq (by have := hr.dp; show X.A.depth < recursionLimit; omega) hkp
  · intro out c h' tk hkp hn hD hol hout
    have ep := each_vals hout
    have hL2 : ((vs.zip xs).mergeSort (W.dataLe false fun b => key0 b.2)).length ≤ sizeLine := by
      rw [(List.mergeSort_perm _ _).length_eq, List.length_zip, hlen, Nat.min_self]; omega
    have hrp : RpL X.K X.mw Hd eh1 H2 (((vs.zip xs).mergeSort (W.dataLe false fun b => key0 b.2)).map (·.2)) (((vs.zip xs).mergeSort (W.dataLe false fun b => key0 b.2)).map (·.1)) := rpL_of fun b hb => by
      have hb' := (List.mergeSort_perm _ _).mem_iff.mp hb
      obtain ⟨i, hi⟩ := mem_get hb'
      obtain ⟨u, _, h2⟩ := eachIs_get hea i b hi
      exact h2.2
    have hsort : ((vs.zip xs).mergeSort (W.dataLe false fun b => key0 b.2)).map (·.2) = sortK0 xs := by
      rw [PySem.W.sort_maps (r := W.dataLe false fun b : V × EV => key0 b.2) (s := W.dataLe false key0) (fun b : V × EV => b.2) (fun _ _ _ _ => rfl), hzs]; rfl
    rw [hsort] at hrp
    have n2 : H2 (s2.heap.objs.size + 1) = none := I2.hok.fresh (Nat.le_succ _)
    refine ⟨.ref _, upd H2 (s2.heap.objs.size + 1) (.lst (((vs.zip xs).mergeSort (W.dataLe false fun b => key0 b.2)).map (·.1))), I2.laid (t' := tk) hkp (Nat.le_succ _) ⟨by rw [List.length_map]; exact hL2, out, c, ep, hD⟩, rfl, ?_⟩
    have st : Step eh1 H2 eh1 (upd H2 (s2.heap.objs.size + 1) (.lst (((vs.zip xs).mergeSort (W.dataLe false fun b => key0 b.2)).map (·.1)))) := .newF n2
    exact kk eh1 _ (.lst (sortK0 xs)) (.ref _) ((t1.trans t2).trans st) (R2.newF n2) ⟨_, _, rfl, upd_same, ⟨R2.fresh n2, R2.notHid n2⟩, hrp.step st⟩ m1
end
end VM

/-! VM8: ghosts (explicit objects frozen); fields; dicts; instances; properties; keywords; stars. -/
namespace VM
open PySem PySem.Spec PyProof.Rows L2

/-! ### ghosts -/
def fz (S : Addr → Bool) (eh : Eh) : Nat → EV → EV
  | 0, x => x
  | n + 1, x => match x with
    | .tup xs => .tup (xs.map (fz S eh n))
    | .lst xs => .lst (xs.map (fz S eh n))
    | .dct kvs => .dct (kvs.map fun p => (p.1, fz S eh n p.2))
    | .obj C fs => .obj C (fs.map fun p => (p.1, fz S eh n p.2))
    | .dn kvs => .dn (kvs.map fun p => (p.1, fz S eh n p.2))
    | .ref a => if S a then (match eh a with
      | some (.lst xs) => .lst (xs.map (fz S eh n))
      | some (.dct kvs) => .dct (kvs.map fun p => (p.1, fz S eh n p.2))
      | some (.ins C fs) => .obj C (fs.map fun p => (p.1, fz S eh n p.2))
      | some (.dN kvs) => .dn (kvs.map fun p => (p.1, fz S eh n p.2))
      | none => .ref a) else .ref a
    | x => x
def dcs (S : Addr → Bool) (eh : Eh) : Nat → EV → List Addr
  | 0, _ => []
  | n + 1, x => match x with
    | .tup xs => xs.flatMap (dcs S eh n)
    | .lst xs => xs.flatMap (dcs S eh n)
    | .dct kvs => kvs.flatMap fun p => dcs S eh n p.2
    | .obj C fs => fs.flatMap fun p => dcs S eh n p.2
    | .dn kvs => kvs.flatMap fun p => dcs S eh n p.2
    | .ref a => if S a then (match eh a with
      | some (.lst xs) => xs.flatMap (dcs S eh n)
      | some (.dct kvs) => a :: kvs.flatMap fun p => dcs S eh n p.2
      | some (.ins C fs) => fs.flatMap fun p => dcs S eh n p.2
      | some (.dN kvs) => a :: kvs.flatMap fun p => dcs S eh n p.2
      | none => []) else []
    | _ => []
def drE (S : Addr → Bool) (eh : Eh) : Eh := fun a => if S a then none else eh a
def nw (eh : Eh) : Addr → Bool := fun a => (eh a).isNone
theorem dcs_mem {S : Addr → Bool} {eh : Eh} : ∀ (n : Nat) (x : EV) (d : Addr), d ∈ dcs S eh n x → S d = true ∧ ((∃ kvs, eh d = some (.dct kvs)) ∨ ∃ kvs, eh d = some (.dN kvs))
  | 0, _, _, h => by simp [dcs] at h
  | n + 1, x, d, h => by
    cases x with
    | tup xs => simp only [dcs, List.mem_flatMap] at h; obtain ⟨y, _, h⟩ := h; exact dcs_mem n y d h
    | lst xs => simp only [dcs, List.mem_flatMap] at h; obtain ⟨y, _, h⟩ := h; exact dcs_mem n y d h
    | dct xs => simp only [dcs, List.mem_flatMap] at h; obtain ⟨y, _, h⟩ := h; exact dcs_mem n y.2 d h
    | obj C xs => simp only [dcs, List.mem_flatMap] at h; obtain ⟨y, _, h⟩ := h; exact dcs_mem n y.2 d h
    | dn xs => simp only [dcs, List.mem_flatMap] at h; obtain ⟨y, _, h⟩ := h; exact dcs_mem n y.2 d h
    | ref a =>
      simp only [dcs] at h
      split at h
      · rename_i hs
        cases e : eh a with
        | none => rw [e] at h; simp at h
        | some o =>
          rw [e] at h
          cases o with
          | lst xs => simp only [List.mem_flatMap] at h; obtain ⟨y, _, h⟩ := h; exact dcs_mem n y d h
          | dct xs =>
            rcases List.mem_cons.mp h with h | h
            · subst h; exact ⟨hs, .inl ⟨_, e⟩⟩
            · simp only [List.mem_flatMap] at h; obtain ⟨y, _, h⟩ := h; exact dcs_mem n y.2 d h
          | ins C xs => simp only [List.mem_flatMap] at h; obtain ⟨y, _, h⟩ := h; exact dcs_mem n y.2 d h
          | dN xs =>
            rcases List.mem_cons.mp h with h | h
            · subst h; exact ⟨hs, .inr ⟨_, e⟩⟩
            · simp only [List.mem_flatMap] at h; obtain ⟨y, _, h⟩ := h; exact dcs_mem n y.2 d h
      · simp at h
    | _ => simp [dcs] at h
theorem RpL.map {K mg Hd} {eh eh' : Eh} {H H' : Hp} {f : EV → EV} : ∀ {xs : List EV} {vs : List V}, (∀ x ∈ xs, ∀ v, Rp K mg Hd eh H x v → Rp K mg Hd eh' H' (f x) v) → RpL K mg Hd eh H xs vs → RpL K mg Hd eh' H' (xs.map f) vs
  | [], _, _, h => h
  | x :: xs, _, i, ⟨v, r, e, h, t⟩ => ⟨v, r, e, i x (by simp) v h, RpL.map (fun y hy => i y (by simp [hy])) t⟩
theorem RpK.map {K mg Hd} {eh eh' : Eh} {H H' : Hp} {f : EV → EV} : ∀ {xs : List (Key × EV)} {vs : List (Key × V)}, (∀ x ∈ xs, ∀ v, Rp K mg Hd eh H x.2 v → Rp K mg Hd eh' H' (f x.2) v) → RpK K mg Hd eh H xs vs → RpK K mg Hd eh' H' (xs.map fun p => (p.1, f p.2)) vs
  | [], _, _, h => h
  | (k, x) :: xs, _, i, ⟨v, r, e, h, t⟩ => ⟨v, r, e, i (k, x) (by simp) v h, RpK.map (fun y hy => i y (by simp [hy])) t⟩
theorem RpF.map {K mg Hd} {eh eh' : Eh} {H H' : Hp} {f : EV → EV} : ∀ {xs : List (Str × EV)} {vs : List (Str × V)}, (∀ x ∈ xs, ∀ v, Rp K mg Hd eh H x.2 v → Rp K mg Hd eh' H' (f x.2) v) → RpF K mg Hd eh H xs vs → RpF K mg Hd eh' H' (xs.map fun p => (p.1, f p.2)) vs
  | [], _, _, h => h
  | (k, x) :: xs, _, i, ⟨v, r, e, h, t⟩ => ⟨v, r, e, i (k, x) (by simp) v h, RpF.map (fun y hy => i y (by simp [hy])) t⟩
theorem RpN.map {K mg Hd} {eh eh' : Eh} {H H' : Hp} {f : EV → EV} : ∀ {xs : List (NestedKey × EV)} {vs : List V}, (∀ x ∈ xs, ∀ v, Rp K mg Hd eh H x.2 v → Rp K mg Hd eh' H' (f x.2) v) → RpN K mg Hd eh H xs vs → RpN K mg Hd eh' H' (xs.map fun p => (p.1, f p.2)) vs
  | [], _, _, h => h
  | (k, x) :: xs, _, i, ⟨v, r, e, h, t⟩ => ⟨v, r, e, i (k, x) (by simp) v h, RpN.map (fun y hy => i y (by simp [hy])) t⟩
/-- what a ghost locks -/
def Lk (w : World) (o : HO) : Prop := (∃ us, o = .dK us) ∨ ∃ a xs, o = dictN w a xs
section
variable {X : Cx} {Hd : Addr → Prop} {eh : Eh} {H : Hp} {pins : List (Addr × Obj)} {σ : L2.St} {s : Shared}
theorem lock_all (I : Inv X pins σ H s) : ∀ (L : List Addr), (∀ d ∈ L, ∃ u, H d = some u ∧ Lk X.w u) → ∃ H', Inv X pins σ H' s ∧ (∀ d ∈ L, ∃ od u, H d = some u ∧ Lk X.w u ∧ H' d = some (.frz od u)) ∧ ∀ d, d ∉ L → H' d = H d
  | [], _ => ⟨H, I, fun _ h => by simp at h, fun _ _ => rfl⟩
  | d :: L, h => by
    obtain ⟨H1, I1, a1, b1⟩ := lock_all I L fun c hc => h c (by simp [hc])
    by_cases hd : d ∈ L
    · exact ⟨H1, I1, fun c hc => (List.mem_cons.mp hc).elim (fun e => a1 c (e ▸ hd)) (a1 c), fun c hc => b1 c fun z => hc (by simp [z])⟩
    · obtain ⟨u, e, lk⟩ := h d (by simp)
      obtain ⟨od, I2⟩ := I1.lock ((b1 d hd).trans e) (by rcases lk with ⟨us, rfl⟩ | ⟨a, xs, rfl⟩ <;> exact trivial)
      refine ⟨_, I2, fun c hc => ?_, fun c hc => ?_⟩
      · by_cases hcd : c = d
        · subst hcd; exact ⟨od, u, e, lk, upd_same⟩
        · obtain ⟨oc, vs, x, l, y⟩ := a1 c ((List.mem_cons.mp hc).resolve_left hcd)
          exact ⟨oc, vs, x, l, by rw [upd_ne hcd]; exact y⟩
      · have : c ≠ d := fun z => hc (by simp [z])
        rw [upd_ne this]; exact b1 c fun z => hc (by simp [z])
theorem ghostM (I : Inv X pins σ H s) (R : Rh X.K X.mw Hd eh H) (S : Addr → Bool) (L : List Addr) (hL : ∀ d ∈ L, S d = true ∧ ((∃ kvs, eh d = some (.dct kvs)) ∨ ∃ kvs, eh d = some (.dN kvs))) :
    ∃ H', Inv X pins σ H' s ∧ Step eh H (drE S eh) H' ∧ Rh X.K X.mw Hd (drE S eh) H' ∧ (∀ c, S c = false → H' c = H c) ∧ ∀ (m : Nat) (y : EV) (v : V), (∀ d ∈ dcs S eh m y, d ∈ L) → Rp X.K X.mw Hd eh H y v → Rp X.K X.mw Hd (drE S eh) H' (fz S eh m y) v := by
  obtain ⟨H', I', a, b⟩ := lock_all I L fun d hd => by
    obtain ⟨_, ⟨kvs, e⟩ | ⟨kvs, e⟩⟩ := hL d hd
    · obtain ⟨us, e, _⟩ := R.ob d _ e
      exact ⟨_, e, .inl ⟨us, rfl⟩⟩
    · obtain ⟨ys, us, e, _⟩ := R.ob d _ e
      exact ⟨_, e, .inr ⟨d, ys, rfl⟩⟩
  have nd0 : ∀ c o, H c = some o → ¬ Lk X.w o → H' c = some o := fun c o e ne => by
    by_cases hc : c ∈ L
    · obtain ⟨_, u, e', l, _⟩ := a c hc; rw [e] at e'; cases e'; exact absurd l ne
    · rw [b c hc]; exact e
  have nd : ∀ c o, H c = some o → (∀ φ, o ≠ .ext φ) → (∀ us, o ≠ .dK us) → H' c = some o := fun c o e n1 n2 => nd0 c o e fun l => by
    rcases l with ⟨us, e⟩ | ⟨a, xs, e⟩
    · exact n2 _ e
    · exact n1 _ e
  have st : Step eh H (drE S eh) H' := by
    refine ⟨fun c o e n' t => ?_, fun c xs e => nd c _ e (fun _ z => nomatch z) (fun _ z => nomatch z), fun c o u e => nd c _ e (fun _ z => nomatch z) (fun _ z => nomatch z)⟩
    have : c ∉ L := fun z => by obtain ⟨_, ⟨kvs, e⟩ | ⟨kvs, e⟩⟩ := hL c z <;> (rw [n'] at e; cases e)
    exact ⟨by rw [b c this]; exact e, by unfold drE; split <;> first | rfl | exact n'⟩
  have R' : Rh X.K X.mw Hd (drE S eh) H' := by
    refine ⟨fun p hp => ?_, fun c o e => ?_, fun c hc => ?_⟩
    · obtain ⟨ps, q1, q2, q3⟩ := R.tb p hp
      refine ⟨ps, nd _ _ q1 (fun _ z => nomatch z) (fun _ z => nomatch z), q2, fun pos cv e => ?_⟩
      obtain ⟨c', e1, e2⟩ := q3 pos cv e
      exact ⟨c', e1, nd0 _ _ e2 (fun l => by
        rcases l with ⟨us, z⟩ | ⟨a, xs, z⟩
        · unfold LamX.CodeO at z; cases z
        · exact dictN_ne z.symm)⟩
    · unfold drE at e
      split at e
      · cases e
      · rename_i hs
        refine (R.ob c o e).step' st (b c fun z => hs (hL c z).1)
    · obtain ⟨⟨vs, e⟩, e'⟩ := R.hd c hc
      exact ⟨⟨vs, nd _ _ e (fun _ z => nomatch z) (fun _ z => nomatch z)⟩, by unfold drE; split <;> first | rfl | exact e'⟩
  refine ⟨H', I', st, R', fun c hc => b c fun z => (by have := (hL c z).1; rw [hc] at this; cases this), ?_⟩
  intro m
  induction m with
  | zero => intro y v _ r; exact r.step st
  | succ m ih =>
    intro y v hd r
    cases y with
    | tup xs =>
      obtain ⟨p, vs, e, h, t⟩ := r
      exact ⟨p, vs, e, SqT.step st h, t.map fun y hy v => ih y v fun d hd' => hd d (by simp only [dcs, List.mem_flatMap]; exact ⟨y, hy, hd'⟩)⟩
    | lst xs =>
      obtain ⟨p, vs, e, h, nn, t⟩ := r
      have z := st.st p _ h nn.1 (fun _ z => nomatch z)
      exact ⟨p, vs, e, z.1, ⟨z.2, nn.2⟩, t.map fun y hy v => ih y v fun d hd' => hd d (by simp only [dcs, List.mem_flatMap]; exact ⟨y, hy, hd'⟩)⟩
    | dct xs =>
      obtain ⟨p, o, us, e, h, t⟩ := r
      exact ⟨p, o, us, e, st.frz _ _ _ h, t.map fun y hy v => ih y.2 v fun d hd' => hd d (by simp only [dcs, List.mem_flatMap]; exact ⟨y, hy, hd'⟩)⟩
    | obj C xs =>
      obtain ⟨p, c, dx, us, e, mm, h, nn, t⟩ := r
      have z := st.st p _ h nn.1 (fun _ z => nomatch z)
      exact ⟨p, c, dx, us, e, mm, z.1, ⟨z.2, nn.2⟩, t.map fun y hy v => ih y.2 v fun d hd' => hd d (by simp only [dcs, List.mem_flatMap]; exact ⟨y, hy, hd'⟩)⟩
    | dn xs =>
      obtain ⟨p, o, ys, us, e, h, ⟨z1, z2, z3, z4, z5⟩, t⟩ := r
      exact ⟨p, o, ys, us, e, st.frz _ _ _ h, ⟨z1, z2, by rw [List.map_map]; exact z3, fun x hx => ⟨(z4 x hx).1.ext fun _ _ w => SqT.step st w, (z4 x hx).2⟩, z5⟩, t.map fun y hy v => ih y.2 v fun d hd' => hd d (by simp only [dcs, List.mem_flatMap]; exact ⟨y, hy, hd'⟩)⟩
    | ref p =>
      simp only [fz]
      cases hs : S p with
      | false => simp only [Bool.false_eq_true, if_false]; exact r
      | true =>
        simp only [if_true]
        have hz : drE S eh p = none := by unfold drE; rw [hs]; rfl
        cases e : eh p with
        | none => exact r
        | some o =>
          have nh : ¬ Hd p := fun z => by have := (R.hd p z).2; rw [e] at this; cases this
          have q := R.ob p o e
          cases r
          cases o with
          | lst xs =>
            obtain ⟨vs, h, t⟩ := q
            exact ⟨p, vs, rfl, nd _ _ h (fun _ z => nomatch z) (fun _ z => nomatch z), ⟨hz, nh⟩, t.map fun y hy v => ih y v fun d hd' => hd d (by simp only [dcs, hs, e, if_true, List.mem_flatMap]; exact ⟨y, hy, hd'⟩)⟩
          | dct xs =>
            obtain ⟨vs, h, t⟩ := q
            obtain ⟨od, us, h', _, g⟩ := a p (hd p (by simp only [dcs, hs, e, if_true]; simp))
            rw [h] at h'; cases h'
            exact ⟨p, od, vs, rfl, g, t.map fun y hy v => ih y.2 v fun d hd' => hd d (by simp only [dcs, hs, e, if_true, List.mem_cons, List.mem_flatMap]; exact .inr ⟨y, hy, hd'⟩)⟩
          | ins C xs =>
            obtain ⟨c, dx, us, mm, h, t⟩ := q
            exact ⟨p, c, dx, us, rfl, mm, nd _ _ h (fun _ z => nomatch z) (fun _ z => nomatch z), ⟨hz, nh⟩, t.map fun y hy v => ih y.2 v fun d hd' => hd d (by simp only [dcs, hs, e, if_true, List.mem_flatMap]; exact ⟨y, hy, hd'⟩)⟩
          | dN xs =>
            obtain ⟨ys, us, h, z1, z2, z3, z4, z5, t⟩ := q
            obtain ⟨od, u, h', _, g⟩ := a p (hd p (by simp only [dcs, hs, e, if_true]; simp))
            rw [h] at h'; cases h'
            exact ⟨p, od, ys, us, rfl, g, ⟨z1, z2, by rw [List.map_map]; exact z3, fun x hx => ⟨(z4 x hx).1.ext fun _ _ w => SqT.step st w, (z4 x hx).2⟩, z5⟩, (RpN.ofL t).map fun y hy v => ih y.2 v fun d hd' => hd d (by simp only [dcs, hs, e, if_true, List.mem_cons, List.mem_flatMap]; exact .inr ⟨y, hy, hd'⟩)⟩
    | _ => exact r.step st
theorem ghost (I : Inv X pins σ H s) (R : Rh X.K X.mw Hd eh H) (S : Addr → Bool) (n : Nat) (x : EV) (v : V) (r : Rp X.K X.mw Hd eh H x v) :
    ∃ H', Inv X pins σ H' s ∧ Step eh H (drE S eh) H' ∧ Rh X.K X.mw Hd (drE S eh) H' ∧ Rp X.K X.mw Hd (drE S eh) H' (fz S eh n x) v := by
  obtain ⟨H', I', st, R', _, f⟩ := ghostM I R S (dcs S eh n x) (dcs_mem n x)
  exact ⟨H', I', st, R', f n x v (fun _ z => z) r⟩
end
/-- what the expression made is frozen; what it made and doesn't hold is forgotten -/
def mFz (n : Nat) (ma : ME) : ME := fun xc es eh q => ma xc es eh fun x eh1 => q (fz (nw eh) eh1 n x) (drE (nw eh) eh1)
section
variable {X : Cx} {E : XK} {e a b c o : Expr} {ma mb mc mv : ME} {pos pos' : Pos} {ms : MS} {ss : List Stmt}
theorem re_fz (n : Nat) (he : PE X e (U X.K X.mw E ma)) : PE X e (U X.K X.mw E (mFz n ma)) := by
  refine ⟨fun pins s σ H Q I ⟨Hd, es, eh, xc, q, R, xo, m, k⟩ => ?_⟩
  refine thn (he.run pins s σ H (fun v H1 => ∃ eh1 x, Step eh H eh1 H1 ∧ Rh X.K X.mw Hd eh1 H1 ∧ Rp X.K X.mw Hd eh1 H1 x v ∧ q (fz (nw eh) eh1 n x) (drE (nw eh) eh1)) I ⟨Hd, es, eh, xc, _, R, xo, m, fun eh1 H1 x v s1 R1 r1 m1 => ⟨eh1, x, s1, R1, r1, m1⟩⟩) fun v s1 ⟨x', H1, I1, rv, eh1, x, s1, R1, r1, m1⟩ => ?_
  obtain ⟨H2, I2, s2, R2, r2⟩ := ghost I1 R1 (nw eh) n x x' r1
  exact ⟨x', H2, I2, rv, k _ H2 _ _ (s1.trans s2) R2 r2 m1⟩

/-! ### fields -/
def putE (f : Str) (v : EV) : List (Str × EV) → List (Str × EV)
  | [] => [(f, v)]
  | (g, x) :: r => if g = f then (g, v) :: r else (g, x) :: putE f v r
theorem RpF.put {K mg Hd} {eh : Eh} {H : Hp} {f : Str} {y : EV} {v : V} (q : Rp K mg Hd eh H y v) : ∀ {fs : List (Str × EV)} {us : List (Str × V)}, RpF K mg Hd eh H fs us → RpF K mg Hd eh H (putE f y fs) (putF f v us)
  | [], _, h => by cases h; exact ⟨v, [], rfl, q, rfl⟩
  | (g, x) :: r, _, ⟨w, r', e, h, t⟩ => by
    subst e
    unfold putE putF
    by_cases hg : g = f
    · rw [if_pos hg, if_pos hg]; exact ⟨v, _, rfl, q, t⟩
    · rw [if_neg hg, if_neg hg]; exact ⟨w, _, rfl, h, RpF.put q t⟩
theorem putF_self {f : Str} {v : V} : ∀ {us : List (Str × V)}, us.lookup f = some v → putF f v us = us
  | [], h => by simp at h
  | (g, x) :: r, h => by
    unfold putF
    by_cases hg : g = f
    · subst hg; simp at h; subst h; simp
    · rw [if_neg hg]
      have hb : (f == g) = false := beq_eq_false_iff_ne.mpr (Ne.symm hg)
      simp only [List.lookup_cons, hb] at h
      rw [putF_self h]
def mFld (cn f : Str) (ma : ME) : ME := fun xc es eh q => ma xc es eh fun x eh1 => ∃ fs v, insE eh1 x = some (cn, fs) ∧ fs.lookup f = some v ∧ q v eh1
theorem re_fld {cn f : Str} {C : Addr} (hC : X.mg cn = some (.ref C)) (c : Cls X.K C) (n : NoAttr X.K C f) (he : PE X e (U X.K X.mw E ma)) (hb : attributeBase e f X.env (eval e X.env) = eval e X.env := by rfl) : PE X (.Attribute e f pos) (U X.K X.mw E (mFld cn f ma)) :=
  PE.imp (pe_fld he hb) fun σ H Q ⟨Hd, es, eh, xc, q, R, xo, m, k⟩ => ⟨Hd, es, eh, xc, _, R, xo, m, fun eh1 H1 x v s1 R1 r1 ⟨fs, y, hi, hl, m1⟩ => by
    obtain ⟨a, c', dx, us, rfl, hc, h, t⟩ := ins_of R1 r1 hi
    rw [show X.mw.m _ = _ from hC] at hc; cases hc
    obtain ⟨w, hw, rw'⟩ := t.lookup hl
    exact ⟨a, C, dx, us, w, rfl, h, c, n, hw, k eh1 H1 y w s1 R1 rw' m1⟩⟩
def sFldE (cn f : Str) (ma mv : ME) : MS := fun xc d es eh => mv xc es eh fun y eh1 => ma xc es eh1 fun x eh2 => ∃ a fs, x = .ref a ∧ eh2 a = some (.ins cn fs) ∧ fs.length < 1000 ∧ d.nx es (eupd eh2 a (some (.ins cn (putE f y fs))))
theorem rs_fld {cn f : Str} {C : Addr} (hC : X.mg cn = some (.ref C)) (c : Cls X.K C) (n : NoAttr X.K C f) (ha : PE X o (U X.K X.mw E ma)) (hv : PE X e (U X.K X.mw E mv)) (hs : swapsWith e (some (.Attribute o f pos')) pos.line X.env = pure false := by rfl) :
    PS X (.Assign [.Attribute o f pos'] e pos) (US X.K X.mw E (sFldE cn f ma mv)) :=
  PS.imp (ps_fld ha hv hs) fun D σ H ⟨Hd, es, eh, xc, d, R, xo, m, k1, k2, k3, k4⟩ => ⟨Hd, es, eh, xc, _, R, xo, m, fun eh1 H1 y v s1 R1 r1 m1 => ⟨Hd, es, eh1, xc, _, R.step s1 R1, xo.step s1, m1, fun eh2 H2 x w s2 R2 r2 ⟨a, fs, e1, e2, hl, m2⟩ => by
    subst e1
    cases r2
    obtain ⟨c', dx, us, hc, h, t⟩ := R2.ob a _ e2
    rw [show X.mw.m _ = _ from hC] at hc; cases hc
    have st : Step eh2 H2 (eupd eh2 a (some (.ins cn (putE f y fs)))) (upd H2 a (.ins C dx (putF f v us))) := .write R2 e2
    refine ⟨a, C, dx, us, rfl, h, c, n, by rw [← t.length]; exact hl, k1 _ _ _ _ (s1.trans (s2.trans st)) ((R.step (s1.trans s2) R2).step st (.write R2 e2 ⟨C, dx, _, hC, upd_same, (t.step st).put ((r1.step s2).step st)⟩)) m2⟩⟩⟩
/-- the dict (or list) that a field of the object in slot i holds is frozen -/
def sFzF (i : Nat) (cn f : Str) (n : Nat) (ms : MS) : MS := fun xc d es eh => ∃ a fs p, es[i]? = some (some (.ref a)) ∧ eh a = some (.ins cn fs) ∧ fs.lookup f = some (.ref p) ∧ p ≠ a ∧
  ms xc d es (eupd (drE (fun b => b == p) eh) a (some (.ins cn (putE f (fz (fun b => b == p) eh n (.ref p)) fs))))
theorem rs_fzF {i : Nat} {cn f : Str} {n : Nat} (h : PSs X ss (US X.K X.mw E ms)) : PSs X ss (US X.K X.mw E (sFzF i cn f n ms)) := by
  refine ⟨fun pins s σ H D I ⟨Hd, es, eh, xc, d, R, xo, ⟨a, fs, p, ei, ea, hl, hp, m⟩, k1, k2, k3, k4⟩ => ?_⟩
  obtain ⟨H', I', st, R', r'⟩ := ghost I R.obj (fun b => b == p) n (.ref p) (.ref p) rfl
  have ea' : drE (fun b => b == p) eh a = some (.ins cn fs) := by
    unfold drE
    have : (a == p) = false := beq_eq_false_iff_ne.mpr hp.symm
    simp only [this, Bool.false_eq_true, if_false]; exact ea
  obtain ⟨C, dx, us, hc, hh, t⟩ := R'.ob a _ ea'
  have eU : upd H' a (.ins C dx us) = H' := by
    funext b; unfold upd; split
    · rename_i z; rw [z, hh]
    · rfl
  have st2 : Step (drE (fun b => b == p) eh) H' (eupd (drE (fun b => b == p) eh) a (some (.ins cn (putE f (fz (fun b => b == p) eh n (.ref p)) fs)))) H' := by
    have z : Step (drE (fun b => b == p) eh) H' (eupd (drE (fun b => b == p) eh) a (some (.ins cn (putE f (fz (fun b => b == p) eh n (.ref p)) fs)))) (upd H' a (.ins C dx us)) := .write R' ea'
    rw [eU] at z; exact z
  have lk : us.lookup f = some (.ref p) := by
    obtain ⟨w, hw, rw'⟩ := t.lookup hl
    rw [hw]; cases rw'; rfl
  have R2 : Rh X.K X.mw Hd (eupd (drE (fun b => b == p) eh) a (some (.ins cn (putE f (fz (fun b => b == p) eh n (.ref p)) fs)))) H' := by
    have z := Rh.write (o := .ins C dx us) (eo := .ins cn (putE f (fz (fun b => b == p) eh n (.ref p)) fs)) R' ea' (by
      rw [eU]
      refine ⟨C, dx, us, hc, hh, ?_⟩
      have := (t.step st2).put (f := f) (r'.step st2)
      rw [putF_self lk] at this
      exact this)
    rw [eU] at z; exact z
  have s2 := st.trans st2
  exact h.run pins s σ H' D I' ⟨Hd, es, _, xc, d, R.step s2 R2, xo.step s2, m, fun es2 eh2 σ2 H2 s3 => k1 es2 eh2 σ2 H2 (s2.trans s3), fun eh2 H2 x v s3 => k2 eh2 H2 x v (s2.trans s3), fun es2 eh2 σ2 H2 s3 => k3 es2 eh2 σ2 H2 (s2.trans s3), fun es2 eh2 σ2 H2 s3 => k4 es2 eh2 σ2 H2 (s2.trans s3)⟩

/-! ### dicts -/
def putKE (kvs : List (Key × EV)) (k : Key) (v : EV) : List (Key × EV) :=
  if (kvs.any fun kv => decide (kv.1 = k)) = true then kvs.map (fun kv => if kv.1 = k then (kv.1, v) else kv) else kvs ++ [(k, v)]
theorem RpK.any {K mg Hd} {eh : Eh} {H : Hp} {k : Key} : ∀ {xs : List (Key × EV)} {us : List (Key × V)}, RpK K mg Hd eh H xs us → (us.any fun kv => decide (kv.1 = k)) = (xs.any fun kv => decide (kv.1 = k))
  | [], _, h => by cases h; rfl
  | (_, _) :: _, _, ⟨_, _, e, _, t⟩ => by subst e; simp only [List.any_cons, RpK.any t]
theorem RpK.sets {K mg Hd} {eh : Eh} {H : Hp} {k : Key} {x : EV} {v : V} (q : Rp K mg Hd eh H x v) : ∀ {xs : List (Key × EV)} {us : List (Key × V)}, RpK K mg Hd eh H xs us → RpK K mg Hd eh H (xs.map fun kv => if kv.1 = k then (kv.1, x) else kv) (us.map fun kv => if kv.1 = k then (kv.1, v) else kv)
  | [], _, h => by cases h; rfl
  | (k', y) :: xs, _, ⟨w, r, e, h, t⟩ => by
    subst e
    simp only [List.map_cons]
    by_cases hk : k' = k
    · rw [if_pos hk, if_pos hk]; exact ⟨v, _, rfl, q, RpK.sets q t⟩
    · rw [if_neg hk, if_neg hk]; exact ⟨w, _, rfl, h, RpK.sets q t⟩
theorem RpK.app {K mg Hd} {eh : Eh} {H : Hp} {k : Key} {x : EV} {v : V} (q : Rp K mg Hd eh H x v) : ∀ {xs : List (Key × EV)} {us : List (Key × V)}, RpK K mg Hd eh H xs us → RpK K mg Hd eh H (xs ++ [(k, x)]) (us ++ [(k, v)])
  | [], _, h => by cases h; exact ⟨v, [], rfl, q, rfl⟩
  | (k', y) :: xs, _, ⟨w, r, e, h, t⟩ => by subst e; exact ⟨w, _, rfl, h, RpK.app q t⟩
theorem RpK.put {K mg Hd} {eh : Eh} {H : Hp} {k : Key} {x : EV} {v : V} (q : Rp K mg Hd eh H x v) {xs : List (Key × EV)} {us : List (Key × V)} (h : RpK K mg Hd eh H xs us) : RpK K mg Hd eh H (putKE xs k x) (putK us k v) := by
  unfold putKE putK
  rw [h.any]
  split
  · exact h.sets q
  · exact h.app q
def sDPutE (md mk mv : ME) : MS := fun xc d es eh => mv xc es eh fun v eh1 => md xc es eh1 fun x eh2 => mk xc es eh2 fun y eh3 => ∃ a kvs k, x = .ref a ∧ eh3 a = some (.dct kvs) ∧ keyE y = some k ∧ kvs.length < sizeLine ∧ d.nx es (eupd eh3 a (some (.dct (putKE kvs k v))))
theorem rs_dput {k : Nat} (hr : RoomG k X.A) (ho : PE X o (U X.K X.mw E ma)) (hi : PE X c (U X.K X.mw E mb)) (hv : PE X e (U X.K X.mw E mv)) (hs : swapsWith e (some (.Subscript o c pos')) pos.line X.env = pure false := by rfl) :
    PS X (.Assign [.Subscript o c pos'] e pos) (US X.K X.mw E (sDPutE ma mb mv)) :=
  PS.imp (ps_dput (by have := hr.units; omega) ho hi hv hs) fun D σ H ⟨Hd, es, eh, xc, d, R, xo, m, k1, k2, k3, k4⟩ => ⟨Hd, es, eh, xc, _, R, xo, m, fun eh1 H1 v v1 s1 R1 r1 m1 => ⟨Hd, es, eh1, xc, _, R.step s1 R1, xo.step s1, m1, fun eh2 H2 x x2 s2 R2 r2 m2 =>
    ⟨Hd, es, eh2, xc, _, (R.step s1 R1).step s2 R2, (xo.step s1).step s2, m2, fun eh3 H3 y y3 s3 R3 r3 ⟨a, kvs, k, e1, e2, e3, hl, m3⟩ => by
      subst e1
      cases r2
      obtain ⟨us, h, t⟩ := R3.ob a _ e2
      have st : Step eh3 H3 (eupd eh3 a (some (.dct (putKE kvs k v)))) (upd H3 a (.dK (putK us k v1))) := .write R3 e2
      refine ⟨a, _, rfl, by rw [keyE_of r3 e3]; exact .k h (by rw [← t.length]; exact hl), k1 _ _ _ _ (s1.trans (s2.trans (s3.trans st))) ((R.step (s1.trans (s2.trans s3)) R3).step st (.write R3 e2 ⟨_, upd_same, (t.step st).put ((r1.step (s2.trans s3)).step st)⟩)) m3⟩⟩⟩⟩
def mDNew : ME := fun _ _ eh q => ∀ p, eh p = none → q (.ref p) (eupd eh p (some (.dct [])))
theorem re_dnew : PE X (.Dict [] [] pos) (U X.K X.mw E mDNew) :=
  PE.imp pe_dnewK fun σ H Q ⟨Hd, es, eh, xc, q, R, xo, m, k⟩ p hp => k _ _ (.ref p) (.ref p) (.new hp) (R.obj.new (eo := .dct []) hp ⟨[], upd_same, rfl⟩) rfl (m p (R.obj.fresh hp))

/-! ### parallel assignment -/
def sPar (i j : Nat) (t : MA) : MS := fun xc d es eh => t xc es eh fun xs eh1 => ∃ x y, xs = [x, y] ∧ d.nx ((es.set i (some x)).set j (some y)) eh1
theorem rs_par {i j : Nat} {x y : Str} {a b : Expr} {t : MA} {px py pt : Pos} {kt k2 pt2} (hc : X.calm = true) (hN : X.N.Nodup) (ha : PA X [a, b] (UA X.K X.mw E t)) (hi : X.N[i]? = some x := by rfl) (hj : X.N[j]? = some y := by rfl) (hij : i ≠ j := by decide)
    (hx : X.env.scope.names.lookup x = some .local := by rfl) (hy : X.env.scope.names.lookup y = some .local := by rfl)
    (hw : swappedStores [.Tuple [.Name x px, .Name y py] kt pt] (.Tuple [a, b] k2 pt2) X.env = pure (some [x, y]) := by rfl)
    (hs : swapsWithSole [.Tuple [.Name x px, .Name y py] kt pt] (.Tuple [a, b] k2 pt2) pos.line X.env = pure false := by rfl) :
    PS X (.Assign [.Tuple [.Name x px, .Name y py] kt pt] (.Tuple [a, b] k2 pt2) pos) (US X.K X.mw E (sPar i j t)) :=
  PS.imp (ps_par hc hN hi hj hij hx hy ha hw hs) fun D σ H ⟨Hd, es, eh, xc, d, R, xo, m, k1, k2, k3, k4⟩ => ⟨Hd, es, eh, xc, _, R, xo, m, fun eh1 H1 xs vs s1 R1 r1 ⟨x, y, e, m1⟩ => by
    subst e
    obtain ⟨v, _, rfl, r, ⟨w, _, rfl, r', e⟩⟩ := r1
    cases e
    exact ⟨v, w, rfl, k1 _ _ _ _ s1 (((R.step s1 R1).set r).set r') m1⟩⟩
/-! ### lists, items stored -/
end

/-! ### instances -/
section
variable {X : Cx} {CX : CXT} {k np : Nat} {f C : Addr} {fd : FuncData} {ps : List Str} {F : FN} {dvs : List V} {ds : List Value} {dx : List EV} {E : XK} {x m : Str} {p pos apos : Pos} {e o : Expr} {es : List Expr} {ma : ME} {t tk : MA}
def mMake (cn : Str) (F : FN) (n : Nat) (dx : List EV) (t : MA) : ME := fun xc es eh q => t xc es eh fun xs eh1 => (xs ++ dx).length + 1 = n ∧ ∀ p, eh1 p = none → F xc (.ref p :: (xs ++ dx)) (eupd eh1 p (some (.ins cn []))) fun v eh2 => v = .non ∧ q (.ref p) eh2
theorem make_lift {cn : Str} (hC : X.mg cn = some (.ref C)) (hdx : ∀ Hd eh H, RpL X.K X.mw Hd eh H dx dvs) : ∀ σ H Q, U X.K X.mw E (mMake cn F np dx t) σ H Q → tMake C (spOf X.K X.mw np F) dvs E (UA X.K X.mw E t) σ H Q := fun σ H Q ⟨Hd, es, eh, xc, q, R, xo, m, kk⟩ =>
  ⟨Hd, es, eh, xc, _, R, xo, m, fun eh1 H1 xs vs s1 R1 r1 ⟨hl, m1⟩ x dx' hx hdx' hne => by
    have st1 : Step eh1 H1 eh1 (upd H1 dx' (.own x)) := .newF hdx'
    have R1' := R1.newF (o := .own x) hdx'
    have hx' : upd H1 dx' (.own x) x = none := by rw [upd_ne hne.symm]; exact hx
    have st2 : Step eh1 (upd H1 dx' (.own x)) (eupd eh1 x (some (.ins cn []))) (upd (upd H1 dx' (.own x)) x (.ins C dx' [])) := .new hx'
    have st := st1.trans st2
    exact ⟨Hd, _, .ref x :: (xs ++ dx), xc, _, by rw [← hl]; exact (congrArg Nat.succ (r1.append (hdx Hd eh1 H1)).length).symm, R1'.new (eo := .ins cn []) hx' ⟨C, dx', [], hC, upd_same, rfl⟩, .cons rfl ((r1.append (hdx Hd eh1 H1)).step st), (xo.step s1).step st, m1 x (R1.fresh hx), fun eh2 H2 z w s2 R2 r2 ⟨e1, m2⟩ => ⟨by subst e1; exact r2, kk eh2 H2 (.ref x) (.ref x) (s1.trans (st.trans s2)) R2 rfl m2⟩⟩⟩
theorem re_make {cn : Str} (M : Mk X.K C f) (hC : X.mg cn = some (.ref C)) (G : FnG X.prog X.w X.K X.mg X.base CX k f fd ps (spOf X.K X.mw np F)) (hr : RoomG (k + 1) X.A) (hg : Gl X cn) (hb : Binds X.K fd ps ds) (hd : Vals dvs ds) (hdx : ∀ Hd eh H, RpL X.K X.mw Hd eh H dx dvs) (hx : Passes CX X E)
    (ha : PA X (e :: es) (UA X.K X.mw E t)) (hdb : (cn == ("__debug__" : Str)) = false := by decide) (he : starEach (e :: es) X.env = (false, eval e X.env) :: starEach es X.env := by rfl) (hpl : (backTo pos (starEach es X.env)).any (·.1) = false := by rfl) :
    PE X (.Call (.Name cn p) (e :: es) [] pos) (U X.K X.mw E (mMake cn F np dx t)) :=
  PE.imp (G.make_ M hr hg hC hb hd (Passes.at hx) ha hdb he hpl) (make_lift hC hdx)
structure GOk (K : PySem.W.Frag) (mg : MW) (gE : List EV → List EV → List EV) (gV : List V → List V → List V) : Prop where
  rel : ∀ {Hd eh H} {xs zs : List EV} {vs ws : List V}, RpL K mg Hd eh H xs vs → RpL K mg Hd eh H zs ws → RpL K mg Hd eh H (gE xs zs) (gV vs ws)
theorem rk_nil : PK X [] (UA X.K X.mw E aNil) := ⟨fun pos pins s σ H Q I h => by
  obtain ⟨Hd, es, eh, xc, q, R, xo, m, k⟩ := h
  exact wpAny_evalAll_nil ⟨[], H, I, .nil, k eh H [] [] .refl R.obj rfl m⟩⟩
theorem rk_cons {nm : Option Str} {kpos : Pos} {kws : List Keyword} {mr : MA} (ha : PE X e (U X.K X.mw E ma)) (hr : PK X kws (UA X.K X.mw E mr)) : PK X (⟨nm, e, kpos⟩ :: kws) (UA X.K X.mw E (aCons ma mr)) :=
  ⟨fun pos pins s σ H Q I ⟨Hd, es, eh, xc, q, R, xo, m, k⟩ => (pk_cons ha hr).run pos pins s σ H Q I ⟨Hd, es, eh, xc, _, R, xo, m, fun eh1 H1 x v s1 R1 r1 m1 =>
    ⟨Hd, es, eh1, xc, _, R.step s1 R1, xo.step s1, m1, fun eh2 H2 xs vs s2 R2 r2 m2 => k eh2 H2 _ _ (s1.trans s2) R2 (.cons (r1.step s2) r2) m2⟩⟩⟩
/-! ### properties -/
def mProp (cn : Str) (F : FN) (n : Nat) (dx : List EV) (ma : ME) : ME := fun xc es eh q => ma xc es eh fun x eh1 => ∃ fs, insE eh1 x = some (cn, fs) ∧ dx.length + 1 = n ∧ F xc (x :: dx) eh1 q
theorem re_prop {cn : Str} {pr : Addr} (hC : X.mg cn = some (.ref C)) (c : Cls X.K C) (he : PE X e (U X.K X.mw E ma)) (hp : PropOf X.K C m pr f) (G : FnG X.prog X.w X.K X.mg X.base CX k f fd ps (spOf X.K X.mw np F)) (hr : RoomG (k + 1) X.A) (hb : Binds X.K fd ps ds) (hd : Vals dvs ds) (hdx : ∀ Hd eh H, RpL X.K X.mw Hd eh H dx dvs) (hx : Passes CX X.nox E)
    (hab : attributeBase e m X.env (eval e X.env) = eval e X.env := by rfl) : PE X (.Attribute e m pos) (U X.K X.mw E (mProp cn F np dx ma)) :=
  PE.imp (G.prop_ he c hp hr hb hd (Passes.at hx) hab) fun σ H Q ⟨Hd, es, eh, xc, q, R, xo, mm, kk⟩ => ⟨Hd, es, eh, xc, _, R, xo, mm, fun eh1 H1 x v s1 R1 r1 ⟨fs, hi, hl, m1⟩ => by
    obtain ⟨a, c', dx', us, rfl, hc, h, t⟩ := ins_of R1 r1 hi
    rw [show X.mw.m _ = _ from hC] at hc; cases hc
    exact ⟨a, dx', us, rfl, h, Hd, eh1, x :: dx, xc, q, by rw [← hl]; exact (congrArg Nat.succ (hdx Hd eh1 H1).length).symm, R1, .cons r1 (hdx Hd eh1 H1), xo.step s1, m1, fun eh2 H2 z w s2 => kk eh2 H2 z w (s1.trans s2)⟩⟩
/-! ### keywords, stars -/
def mCallN (F : FN) (N n m : Nat) (gE : List EV → List EV → List EV) (t tk : MA) : ME := fun xc es eh q => t xc es eh fun xs eh1 => tk xc es eh1 fun zs eh2 => xs.length = n ∧ zs.length = m ∧ (gE xs zs).length = N ∧ F xc (gE xs zs) eh2 q
/-- keywords alone -/
theorem re_callN0 {ks : List Str} {kws : List Keyword} {g : List Value → List Value → List Value} {gV : List V → List V → List V} {gE : List EV → List EV → List EV} (G : FnG X.prog X.w X.K X.mg X.base CX k f fd ps (spOf X.K X.mw np F)) (hr : RoomG k X.A) (hg : Gl X x) (hm : X.mg x = some (.ref f)) (hk : PySem.W.keepIn X.K (.ref f) = true) (hb : KBn X.K fd ps 0 ks g gV) (hG : GOk X.K X.mw gE gV) (hx : Passes CX X E)
    (hkw : PK X kws (UA X.K X.mw E tk)) (hall : (backToKw pos (keywordEach kws X.env)).all (·.1.isSome) = true := by rfl) (hks : (backToKw pos (keywordEach kws X.env)).filterMap (·.1) = ks := by rfl)
    (hdb : (x == ("__debug__" : Str)) = false := by decide)
    (hpl : ((backTo pos (starEach [] X.env)).any (·.1) || (backToKw pos (keywordEach kws X.env)).any (·.1.isNone)) = false := by rfl) :
    PE X (.Call (.Name x p) [] kws pos) (U X.K X.mw E (mCallN F np 0 ks.length gE aNil tk)) := by
  refine PE.imp (G.callk0_ hr hg hm hk hb (Passes.at hx) hkw hall hks hdb hpl) fun σ H Q ⟨Hd, es, eh, xc, q, R, xo, m, kk⟩ => ?_
  exact ⟨Hd, es, eh, xc, _, R, xo, m, fun eh2 H2 zs ws s2 R2 r2 ⟨h1, h2, hl, m2⟩ => ⟨rfl, by rw [← h2]; exact r2.length.symm,
      Hd, _, _, xc, _, by rw [← hl]; exact (hG.rel .nil r2).length.symm, R2, hG.rel .nil r2, xo.step s2, m2, fun eh3 H3 z w s3 => kk eh3 H3 z w (s2.trans s3)⟩⟩
def aStar (ma : ME) (r : MA) : MA := fun xc es eh q => ma xc es eh fun x eh1 => ∃ ys, seqE eh1 x = some ys ∧ r xc es eh1 fun xs eh2 => q (ys ++ xs) eh2
theorem ra_star {mr : MA} (ha : PE X e (U X.K X.mw E ma)) (hr : PA X es (UA X.K X.mw E mr)) (hs : starEach (.Starred e p :: es) X.env = (true, eval e X.env) :: starEach es X.env := by rfl) : PA X (.Starred e p :: es) (UA X.K X.mw E (aStar ma mr)) :=
  PA.imp (StX.pa_star ha hr hs) fun σ H Q ⟨Hd, es, eh, xc, q, R, xo, m, k⟩ => ⟨Hd, es, eh, xc, _, R, xo, m, fun eh1 H1 x v s1 R1 r1 ⟨ys, hy, m1⟩ => by
    obtain ⟨a, vs, rfl, h, t⟩ := seq_of R1 r1 hy
    exact ⟨a, vs, rfl, h.symm, Hd, es, eh1, xc, _, R.step s1 R1, xo.step s1, m1, fun eh2 H2 xs vs' s2 R2 r2 m2 => k eh2 H2 _ _ (s1.trans s2) R2 ((t.step s2).append r2) m2⟩⟩
end
end VM

/-! VM9: slices, items stored, lists of keys. -/
namespace VM
open PySem PySem.Spec PyProof.Rows L2
section
variable {X : Cx} {E : XK} {e o c : Expr} {ma mb mv : ME} {pos pos' : Pos}
theorem RpL.cut {K mg Hd} {eh : Eh} {H : Hp} {xs : List EV} {vs : List V} (r : RpL K mg Hd eh H xs vs) (lo hi : Option Int) : RpL K mg Hd eh H (cutE xs lo hi) (cutV vs lo hi) := by
  unfold cutE cutV
  rw [r.length]
  exact (r.drop _).take _
theorem cutE_whole {xs : List EV} {lo hi : Option Int} (h : HT.sIx xs.length 0 lo = 0 ∧ HT.sIx xs.length xs.length hi = xs.length) : cutE xs lo hi = xs := by
  unfold cutE
  rw [h.1, h.2]
  simp
theorem sl_any : SlR X (USl X.K X.mw oSlice) := by
  intro pins s σ H v w vl vu lo hi sl Q I rv hs pl pu ⟨Hd, eh, x, q, R, r, m, k⟩
  have lst : ∀ {a : Addr} {vs : List V} {xs : List EV}, v = .ref a → SqL X.K H a vs → RpL X.K X.mw Hd eh H xs vs → q (.lst (cutE xs lo hi)) eh →
      ∃ T id, typeLookup (.type T) "__getitem__" = pure (some (.builtin id)) ∧ s.TypeIs w T ∧ wpAny (model X.prog X.w) X.A (getItem w (.ref sl)) (EP X pins σ Q) X.xe s := fun {a vs xs} hv h t m =>
    sl_list pins s σ H v w vl vu lo hi sl Q I rv hs pl pu ⟨a, vs, hv, h, fun p hp => k eh _ (.lst (cutE xs lo hi)) (.ref p) (.newF hp) (R.newF hp) ⟨p, _, rfl, upd_same, ⟨R.fresh hp, R.notHid hp⟩, (t.cut lo hi).step (.newF hp)⟩ m⟩
  have rest : (∃ xs, seqE eh x = some xs ∧ q (.lst (cutE xs lo hi)) eh) → (∀ xs, x ≠ .tup xs) → ∃ T id, typeLookup (.type T) "__getitem__" = pure (some (.builtin id)) ∧ s.TypeIs w T ∧ wpAny (model X.prog X.w) X.A (getItem w (.ref sl)) (EP X pins σ Q) X.xe s := by
    clear m
    rintro ⟨xs, h, mm⟩ nt
    cases x with
    | lst ys => cases h; obtain ⟨a, vs, e, h, _, t⟩ := r; exact lst e (.inl (.inl h)) t mm
    | scr ns => cases h; obtain ⟨a, e, h⟩ := r; exact lst e h.sq (RpL.of_ints ns) mm
    | tup ys => exact absurd rfl (nt ys)
    | ref a =>
      simp only [seqE] at h
      cases e : eh a with
      | none => rw [e] at h; cases h
      | some o =>
        rw [e] at h
        cases o with
        | lst ys => cases h; obtain ⟨vs, h, t⟩ := R.ob a _ e; exact lst r (.inl (.inl h)) t mm
        | _ => cases h
    | _ => cases h
  unfold oSlice at m
  split at m
  · cases r
    exact sl_str pins s σ H _ w vl vu lo hi sl Q I rv hs pl pu ⟨_, rfl, m.1, k eh H (.str _) (.str _) .refl R rfl m.2⟩
  · rename_i xs
    obtain ⟨a, vs, e, h, t⟩ := r
    refine sl_tupA pins s σ H v w vl vu lo hi sl Q I rv hs pl pu ⟨a, vs, e, h, fun hw => ?_, fun _ p hp => k eh _ (.tup (cutE xs lo hi)) (.ref p) (.newF hp) (R.newF hp) ⟨p, _, rfl, .inl (.inl upd_same), (t.cut lo hi).step (.newF hp)⟩ m.2⟩
    refine k eh H (.tup (cutE xs lo hi)) (.ref a) .refl R ⟨a, vs, rfl, h, ?_⟩ m.2
    rw [cutE_whole (by rw [t.length]; exact hw)]; exact t
  · rename_i nstr ntup; exact rest m ntup
def sLPutN (md mk mv : ME) : MS := fun xc d es eh => mv xc es eh fun v eh1 => md xc es eh1 fun x eh2 => mk xc es eh2 fun y eh3 => ∃ a xs i j, x = .ref a ∧ eh3 a = some (.lst xs) ∧ y = .int i ∧ ixN xs.length i = some j ∧ d.nx es (eupd eh3 a (some (.lst (xs.set j v))))
theorem rs_lput (ho : PE X o (U X.K X.mw E ma)) (hi : PE X c (U X.K X.mw E mb)) (hv : PE X e (U X.K X.mw E mv)) (hs : swapsWithSole [.Subscript o c pos'] e pos.line X.env = pure false := by rfl) (hw : swappedStores [.Subscript o c pos'] e X.env = pure none := by rfl)
    (h1 : (assignEach [.Subscript o c pos'] X.env).map (·.2) = [assign (.Subscript o c pos') X.env] := by rfl)
    (has : ∀ v, assign (.Subscript o c pos') X.env v = (do
      let ov ← holding [v] (eval o X.env)
      let iv ← holding [v, ov] (eval c X.env)
      standAt pos'
      holding [v, ov, iv] (setItem ov iv v)
      release [v, ov, iv] []) := by intro _; rfl) :
    PS X (.Assign [.Subscript o c pos'] e pos) (US X.K X.mw E (sLPutN ma mb mv)) :=
  PS.imp (ps_asg hv (pg_sub ho hi set_list has) hs hw h1) fun D σ H ⟨Hd, es, eh, xc, d, R, xo, m, k1, k2, k3, k4⟩ => ⟨Hd, es, eh, xc, _, R, xo, m, fun eh1 H1 v v1 s1 R1 r1 m1 => ⟨Hd, es, eh1, xc, _, R.step s1 R1, xo.step s1, m1, fun eh2 H2 x x2 s2 R2 r2 m2 =>
    ⟨Hd, es, eh2, xc, _, (R.step s1 R1).step s2 R2, (xo.step s1).step s2, m2, fun eh3 H3 y y3 s3 R3 r3 ⟨a, xs, i, j, e1, e2, e3, hj, m3⟩ => by
      subst e1 e3
      cases r2
      cases r3
      obtain ⟨vs, h, t⟩ := R3.ob a _ e2
      have st : Step eh3 H3 (eupd eh3 a (some (.lst (xs.set j v)))) (upd H3 a (.lst (vs.set j v1))) := .write R3 e2
      exact ⟨a, vs, i, j, rfl, rfl, h, by rw [← t.length]; exact hj, k1 _ _ _ _ (s1.trans (s2.trans (s3.trans st))) ((R.step (s1.trans (s2.trans s3)) R3).step st (.write R3 e2 ⟨_, upd_same, (t.step st).set ((r1.step (s2.trans s3)).step st) j⟩)) m3⟩⟩⟩⟩
/-- values that match a dict's keys, place by place -/
theorem keys_rel {kvs : List (Key × V)} {ws : List (Key × Value)} (kv : KV kvs ws) : ∀ {us : List Value}, us.length = ws.length → (∀ (i : Nat) u, us[i]? = some u → ∃ k y, ws[i]? = some (k, y) ∧ keyIs k u = true) → Vals (kvs.map fun p => kV p.1) us := by
  unfold KV at kv
  induction kv with
  | nil => intro us hl _; cases us with
    | nil => exact .nil
    | cons => simp at hl
  | cons hd _ ih => intro us hl f; cases us with
    | nil => simp at hl
    | cons u us =>
      obtain ⟨k, y, e, hk⟩ := f 0 u rfl
      cases e
      exact .cons (by show RelV (kV _) u; rw [hd.1]; exact keyIs_rel hk) (ih (by simpa using hl) fun i w h => f (i + 1) w (by simpa using h))
/-- list(d) of a dict that is locked or not -/
theorem list_of_keys (hc : X.calm = true) : CallR X (.type "list") (fun vs H Q => ∃ d kvs, vs = [V.ref d] ∧ Rd H d (.dK kvs) ∧ ∀ l, H l = none → Q (.ref l) (upd H l (.lst (kvs.map fun p => kV p.1)))) :=
  fun pins s σ H vs us Q I r ⟨d, kvs, hv, hd, q⟩ => by
    subst hv
    obtain ⟨w, rfl, rw'⟩ := vals1 r
    cases rw'
    have ok := hd.ok I.hok
    obtain ⟨hz, hs, ws, kv, dof⟩ := ok
    have hlen : kvs.length = ws.length := Paired.length kv
    obtain ⟨n, at_⟩ := dof.dictAt
    have new : H s.heap.objs.size = none := I.hok.fresh (Nat.le_refl _)
    refine PySem.W.kdl_call (PySem.W.kdl_dict (knd := mixKind X.prog X.w) hs) (I.ok.hd hc) at_ (hlen ▸ hz) fun h1 t1 arr c1 kp1 got it1 => ⟨.ref s.heap.objs.size, _, I.laid (o := .lst (kvs.map fun p => kV p.1)) kp1 (Nat.le_refl _) ?_, rfl, q _ new⟩
    have vr : Vals (kvs.map fun p => kV p.1) arr.toList := keys_rel kv (by rw [Array.length_toList]; exact it1.1) fun i u h => it1.2 i u (by simpa using h)
    exact ⟨by simpa using hz, arr.toList, c1, vr, by simpa using got⟩
theorem rpL_keys {K mg Hd} {eh : Eh} {H : Hp} : ∀ {xs : List (Key × EV)} {us : List (Key × V)}, RpK K mg Hd eh H xs us → RpL K mg Hd eh H (xs.map fun p => keyV p.1) (us.map fun p => kV p.1)
  | [], _, h => by cases h; rfl
  | (k, _) :: _, _, ⟨v, r, e, _, t⟩ => by
    subst e
    refine .cons ?_ (rpL_keys t)
    cases k <;> rfl
def bListD : EOL := fun xs eh q => match xs with
  | [x] => ∃ kvs, dctE eh x = some kvs ∧ q (.lst (kvs.map fun p => keyV p.1)) eh
  | _ => False
theorem cb_listD (hc : X.calm = true) : CallR X (.type "list") (UL X.K X.mw bListD) := CallR.imp (list_of_keys hc) fun vs H Q ⟨Hd, eh, xs, q, R, rx, m, k⟩ => by
  unfold bListD at m
  split at m
  · obtain ⟨ys, hy, m⟩ := m
    obtain ⟨v, rfl, h⟩ := one_of rx
    obtain ⟨a, ws, rfl, hs, rr⟩ := dct_of R h hy
    exact ⟨a, ws, rfl, hs, fun l hl => k eh _ (.lst _) (.ref l) (.newF hl) (R.newF hl) ⟨l, _, rfl, upd_same, ⟨R.fresh hl, R.notHid hl⟩, (rpL_keys rr).step (.newF hl)⟩ m⟩
  · exact m.elim
end
end VM

/-! VMD: repr of data; xs[::-1]. -/
namespace VM
open PySem PySem.Spec PyProof.Rows L2
section
variable {X : Cx} {E : XK} {e : Expr} {ma : ME} {pos p1 p2 p3 : Pos}
/-- xs[::-1], frozen -/
def mRev (ma : ME) : ME := fun xc es eh q => ma xc es eh fun x eh1 => ∃ xs, lstE eh1 x = some xs ∧ q (.lst xs.reverse) eh1
end
end VM

/-! VME: isinstance of an instance; == of instances by their own __eq__; == of (int, int, dict of data). -/
namespace VM
open PySem PySem.Spec PyProof.Rows L2
/-- a class that isinstance knows -/
def isCB (K : PySem.W.Frag) (x : Str) : Bool :=
  He.eqO (PySem.W.findIn K (.ref (He.ga K x)) "__class__") (some (some (.builtin "object.__class__"))) && (He.eqO (PySem.W.specialIn K (.builtin "object.__class__") "__get__") (some (some (.builtin "getset_descriptor.__get__"))) &&
  (decide (PySem.W.takesIn K (.builtin "object.__class__") = some true) && (decide (PySem.W.mroIn K (He.ga K x) (.type "object") = some true) && decide (PySem.W.kitOne K (.ref (He.ga K x)) (.ref (He.ga K x)) = some true))))
theorem rpK_mem {K mg Hd eh H} : ∀ {ka : List (Key × EV)} {us : List (Key × V)}, RpK K mg Hd eh H ka us → ∀ {k : Key} {v : V}, (k, v) ∈ us → ∃ x, (k, x) ∈ ka ∧ Rp K mg Hd eh H x v
  | [], _, h, _, _, hm => by cases h; cases hm
  | (k', x') :: ka, _, ⟨v', r, e, p, t⟩, k, v, hm => by
    subst e
    rcases List.mem_cons.mp hm with e | hm
    · cases e; exact ⟨x', by simp, p⟩
    · obtain ⟨x, h1, h2⟩ := rpK_mem t hm
      exact ⟨x, by simp [h1], h2⟩
theorem kv_mem {us : List (Key × V)} {vs : List (Key × Value)} (h : KV us vs) : ∀ {k : Key} {u : Value}, (k, u) ∈ vs → ∃ v, (k, v) ∈ us ∧ RelV v u := by
  induction h with
  | nil => intro k u hm; cases hm
  | cons r _ ih =>
    rename_i p q us vs _
    intro k u hm
    rcases List.mem_cons.mp hm with e | hm
    · obtain ⟨e1, e2⟩ := r
      subst e
      exact ⟨p.2, List.mem_cons.mpr (.inl (Prod.ext e1.symm rfl)), e2⟩
    · obtain ⟨v, h1, h2⟩ := ih hm
      exact ⟨v, by simp [h1], h2⟩
theorem kv_keys {us : List (Key × V)} {vs : List (Key × Value)} (h : KV us vs) : vs.map (·.1) = us.map (·.1) := by
  induction h with
  | nil => rfl
  | cons r _ ih => simp [ih, r.1]
section
variable {X : Cx} {CX : CXT} {k np : Nat} {f C : Addr} {fd : FuncData} {ps : List Str} {F : FN} {cn : Str}
/-- o.m(k = v, ..): keywords alone -/
def mMethN (cn mn : Str) (F : FN) (N m : Nat) (gE : List EV → List EV → List EV) (ma : ME) (tk : MA) : ME := fun xc es eh q => ma xc es eh fun x eh1 => ∃ fs, insE eh1 x = some (cn, fs) ∧ fs.lookup mn = none ∧
  tk xc es eh1 fun zs eh2 => zs.length = m ∧ (gE [x] zs).length = N ∧ F xc (gE [x] zs) eh2 q
end
/-! ### an explicit list in a slot is frozen -/
def sFzV (i : Nat) (ms : MS) : MS := fun xc d es eh => ∃ p xs, es[i]? = some (some (.ref p)) ∧ eh p = some (.lst xs) ∧ ms xc d (es.set i (some (.lst xs))) (eupd eh p none)
theorem rs_fzV {X : Cx} {E : XK} {ss : List Stmt} {i : Nat} {ms : MS} (h : PSs X ss (US X.K X.mw E ms)) : PSs X ss (US X.K X.mw E (sFzV i ms)) := by
  refine ⟨fun pins s σ H D I w => ?_⟩
  obtain ⟨Hd, es, eh, xc, d, R, xo, ⟨p, xs, ei, ep, m⟩, k1, k2, k3, k4⟩ := w
  have st : Step eh H (eupd eh p none) H := ⟨fun a o ho hn _ => ⟨ho, by
    rw [eupd_ne fun z => by rw [z, ep] at hn; cases hn]; exact hn⟩, fun _ _ h => h, fun _ _ _ h => h⟩
  obtain ⟨vs, hp, rv⟩ := R.obj.ob p _ ep
  have nh : ¬ Hd p := fun z => by have := (R.obj.hd p z).2; rw [ep] at this; cases this
  have R' : Rh X.K X.mw Hd (eupd eh p none) H := ⟨R.obj.tb, fun a o e => by
    by_cases ha : a = p
    · subst ha; rw [eupd_same] at e; cases e
    · rw [eupd_ne ha] at e; exact (R.obj.ob a o e).step' st rfl, fun a z => by
    obtain ⟨q, n⟩ := R.obj.hd a z
    refine ⟨q, ?_⟩
    by_cases ha : a = p
    · subst ha; exact eupd_same
    · rw [eupd_ne ha]; exact n⟩
  obtain ⟨v, hv, rr⟩ := R.loc i _ ei
  cases rr
  have rl : Rl X.K X.mw Hd (eupd eh p none) H (es.set i (some (.lst xs))) σ := by
    have := (R.step st R').set (i := i) (x := .lst xs) (v := .ref p) ⟨p, vs, rfl, hp, ⟨eupd_same, nh⟩, rv.step st⟩
    have e : σ.set i (some (.ref p)) = σ := List.ext_getElem? fun j => by
      rw [List.getElem?_set]
      split
      · rename_i hj; subst hj
        split
        · exact hv.symm
        · rename_i hl; rw [List.getElem?_eq_none (by omega)]
      · rfl
    rwa [e] at this
  exact h.run pins s σ H D I ⟨Hd, _, _, xc, d, rl, xo.step st, m, fun es2 eh2 σ2 H2 s3 => k1 es2 eh2 σ2 H2 (st.trans s3), fun eh2 H2 x v s3 => k2 eh2 H2 x v (st.trans s3), fun es2 eh2 σ2 H2 s3 => k3 es2 eh2 σ2 H2 (st.trans s3), fun es2 eh2 σ2 H2 s3 => k4 es2 eh2 σ2 H2 (st.trans s3)⟩
end VM

/-! VMN: != of instances by the own __eq__; dicts: ==, !=, sorted, dict(d), displays. -/
namespace VM
open PySem PySem.Spec PyProof.Rows L2
def strKeysB (es : Array DictEntry) : Bool := es.all fun e => match e.key with | .str _ _ => true | _ => false
/-- a class over object alone with an own __eq__ and no own __ne__ -/
def isNB (K : PySem.W.Frag) (C : Addr) : Bool :=
  match List.lookup C K with
  | some ⟨.type t, _, .cls cd, sl⟩ => (t == "type") && ((match cd.mro with | [.ref c, .type o] => c == C && o == "object" | _ => false) && (!cd.hasDel &&
      ((match sl.toList with | [_, _, _, _, some (.builtin _), _] => true | _ => false) &&
      (match List.lookup cd.ns K with
       | some ⟨_, _, .dict es _, _⟩ => strKeysB es && (He.eqO (PySem.W.findIn K (.ref C) "__eq__") (some (nsFind es "__eq__")) && (nsFind es "__ne__").isNone)
       | _ => false))))
  | _ => false
section
variable {X : Cx} {k np : Nat} {f C : Addr} {fd : FuncData} {ps : List Str} {F : FN} {cn : Str}
/-! ### dicts compared -/
/-! ### sorted(d), sorted(xs), dict(d) -/
/-! ### written dicts with text keys -/
end
end VM

/-! VMX0: an own exception class over another own one over ValueError, whose inherited __init__(self, value) says super().__init__(value) and self.value = value: what its run leaves. -/
namespace VM
open PySem PySem.Spec PyProof.Rows L2
/-- no class of another's is laid -/
def StO (h : Heap) : Prop := ∃ o, h.get? cStatics = some o ∧ PySem.W.nsIn [(cStatics, o)] cStatics "thirdparty.any" = some none
theorem StO.keeps {h h' : Heap} (s : StO h) (k : ∀ b o, h.get? b = some o → h'.get? b = some o) : StO h' := let ⟨o, a, b⟩ := s; ⟨o, k _ _ a, b⟩
/-- the two statements -/
def InitForm (qual : Str) (body : List Stmt) (scope : Scope) : Prop := ∃ p0 p1 p2 p3 p4 p5 p6 p7 p8 p9, body = [.Expr (.Call (.Attribute (.Call (.Name "super" p0) [] [] p1) "__init__" p2) [.Name "value" p3] [] p4) p5, .Assign [.Attribute (.Name "self" p6) "value" p7] (.Name "value" p8) p9] ∧
    ∀ (L : Addr) (a : Addr) (cd : Value) (cc : Addr), (∃ pl : Sem Bool, eval (.Call (.Attribute (.Call (.Name "super" p0) [] [] p1) "__init__" p2) [.Name "value" p3] [] p4) (PySem.W.ksEnv qual scope L a cd cc) = (do
        let ov ← attributeBase (.Call (.Name "super" p0) [] [] p1) "__init__" (PySem.W.ksEnv qual scope L a cd cc) (eval (.Call (.Name "super" p0) [] [] p1) (PySem.W.ksEnv qual scope L a cd cc))
        standAt p2.atName
        let (fn, ahead) ← holding [ov] (getMethod ov "__init__" pl)
        callWith p4 fn ahead (backTo p4 (starEach [.Name "value" p3] (PySem.W.ksEnv qual scope L a cd cc))) [])) ∧
      swapsWith (.Call (.Attribute (.Call (.Name "super" p0) [] [] p1) "__init__" p2) [.Name "value" p3] [] p4) none p5.line (PySem.W.ksEnv qual scope L a cd cc) = pure false ∧
      swapsWith (.Name "value" p8) (some (.Attribute (.Name "self" p6) "value" p7)) p9.line (PySem.W.ksEnv qual scope L a cd cc) = pure false ∧ interactive (PySem.W.ksEnv qual scope L a cd cc) = false
/-- the def: its object, its code object, its cell (the class that holds it) -/
structure SInit (K : PySem.W.Frag) (P : Program) (mg : Str → Option Value) (f : Addr) (fd : FuncData) (D : Addr) (qual : Str) (params : Arguments) (body : List Stmt) (scope : Scope) : Prop where
  ex : ∃ (oc ccl cl : Value) (od cdd cld : Option Addr) (dV kV doc pm ct : Value) (an : Option Addr) (osl ccs csl : Array (Option Value)) (cc cda : Addr) (vs : Array Value) (tf : Tok) (ar : Arg) (cdD : ClassData),
    fd = PySem.W.ksFn "__init__" qual params body scope dV kV doc pm an (.ref cda) ct cc ∧ K.lookup f = some ⟨oc, od, .func fd, osl⟩ ∧ PySem.W.codeIn K (.ref cda) qual = true ∧
    K.lookup cda = some ⟨ccl, cdd, .fields vs, ccs⟩ ∧ vs[2]? = some (.str P.main.file tf) ∧ K.lookup cc = some ⟨cl, cld, .cell (some (.ref D)), csl⟩ ∧ PySem.W.clsIn K D = some cdD ∧
    (params.posonlyargs ++ params.args).head? = some ar ∧ ar.arg = "self"
  top : (P.main.scope.names.lookup ("super" : Str)).isSome = false
  sup : mg "super" = none
  ks : scope.names.lookup ("super" : Str) = some .globalImplicit
  kc : scope.names.lookup ("__class__" : Str) = some .free
  k1 : scope.names.lookup ("self" : Str) = some .local
  k2 : scope.names.lookup ("value" : Str) = some .local
  cell : ∀ x ∈ scope.names, x.2 ≠ .cell
  co : scope.isCoroutine = false
  gen : scope.isGenerator = false
  kind : scope.kind = .function
  bd : InitForm qual body scope
section
variable {K : PySem.W.Frag} {P : Program} {w : World} {mg : Str → Option Value} {B : Heap} {A : Around} {s : Shared} {f C D e t0 : Addr} {fd : FuncData} {qual : Str} {params : Arguments} {body : List Stmt} {scope : Scope} {u : Value} {args : Args} {R : Result → Shared → Prop}
end
end VM
namespace VM
open PySem PySem.Spec PyProof.Rows L2
end VM

/-! VMX1: such an exception made with its value by keyword; exceptions held as values. -/
namespace PySem
namespace XKw
open PySem.W PySem.Calls PyProof.Rows PySem.HandSPX
section
variable {M : Model} {A : Around} {E : Value → Shared → Prop} {h : Heap} {g : Array GenState} {d : Drawn} {t : Nat} {os : OsState}
variable {nm q : Str} {C N : Addr} {bs bm : List Value} {hdct : Bool} {sn : List Str} {sub : List Value} {ab : Bool} {col : Option Bool} {dd : Option Addr} {k0 k1 k2 k3 k5 : Option Value} {u : Value}
end
section
variable {prog : Program} {w : World} {A : Around} {E : Value → Shared → Prop} {R : Result → Shared → Prop} {h : Heap} {g : Array GenState} {d : Drawn} {t : Nat} {os : OsState}
variable {nm q : Str} {C N fI : Addr} {bs bm : List Value} {hdct : Bool} {sn : List Str} {sub : List Value} {ab : Bool} {col : Option Bool} {dd : Option Addr} {k0 k1 k2 k3 k5 : Option Value} {u : Value}
end
end XKw
end PySem

/-! VMX2: exceptions as values: made, asked by isinstance, their field value. -/
namespace VM
open PySem PySem.Spec PyProof.Rows L2
/-! ### what a class must say, as a check -/
def oexB (K : PySem.W.Frag) (C : Addr) : Bool := match K.lookup C with
  | some ⟨.type t, _, .cls cd, sl⟩ => (t == "type") && ((match cd.mro with | .ref c :: bm => c == C && PySem.HandSPX.refsVE bm | _ => false) && (cd.hasDict && (!cd.hasDel && (match sl.toList with | [_, _, _, _, some (.builtin b), _] => b == "ValueError.__new__" | _ => false))))
  | _ => false
def xisB (K : PySem.W.Frag) (C : Addr) : Bool :=
  He.eqO (PySem.W.findIn K (.ref C) "__getattribute__") (some (some (.builtin "BaseException.__getattribute__"))) && (He.eqO (PySem.W.findIn K (.ref C) "__getattr__") (some none) && (decide (PySem.W.subIn K (.ref C) (.type "BaseException") = some true) && (PySem.W.hasDictIn K C &&
  (He.eqO (PySem.W.findIn K (.ref C) "value") (some none) && (He.eqO (PySem.W.findIn K (.ref C) "__class__") (some (some (.builtin "object.__class__"))) && (He.eqO (PySem.W.specialIn K (.builtin "object.__class__") "__get__") (some (some (.builtin "getset_descriptor.__get__"))) &&
  (decide (PySem.W.takesIn K (.builtin "object.__class__") = some true) && (decide (PySem.W.mroIn K C (.type "object") = some true) && decide (PySem.W.kitOne K (.ref C) (.type "ValueError") = some true)))))))))
def sclsB (K : PySem.W.Frag) (C D : Addr) : Bool :=
  oexB K C && (He.eqO (PySem.W.findIn K (.ref C) "__setattr__") (some (some (.builtin "object.__setattr__"))) && (decide (PySem.W.typeIn K (.ref C) = some (.type "type")) && (PySem.W.keepIn K (.ref C) &&
  (decide (PySem.W.mroIn K C (.ref D) = some true) && (He.eqO (PySem.W.ks_superIn K C D "__init__") (some (some (.builtin "ValueError.__init__"))) && (decide (PySem.W.subIn K (.ref C) (.type "ValueError") = some true) &&
  (PySem.W.excInitIn K C [.type "ValueError", .type "Exception", .type "BaseException", .type "object"] "ValueError.__new__" && xisB K C)))))))
/-! ### made and held -/
section
variable {X : Cx} {pins : List (Addr × Obj)} {σ : L2.St} {H : Hp} {s s' : Shared} {u : Value} {E : XK} {e : Expr} {es : List Expr} {ta : TA} {C D f : Addr} {fd : FuncData} {x : Str} {p pos kp : Pos}
theorem Inv.same (I : Inv X pins σ H s) (hh : s'.heap = s.heap) (os : s'.os = s.os) (ag : AllBare s'.gens) : Inv X pins σ H s' := by
  obtain ⟨a1, a2, a3, a4, a5⟩ := s'
  dsimp only at hh os ag
  subst hh os
  exact ⟨I.ok, I.os, ag, I.base, I.loc, I.cell, I.free, I.freeC, I.pin, I.hok, I.len⟩
/-- the two ways of binding -/
structure SBind (fd : FuncData) : Prop where
  b1 : ∀ (s : Shared) (a u : Value), BindsTo s fd ⟨[a, u], []⟩ [("self", a), ("value", u)]
  b2 : ∀ (s : Shared) (a u : Value), BindsTo s fd ⟨[a], [("value", u)]⟩ [("self", a), ("value", u)]
end
end VM

/-! VMX3: shallow terms for exceptions as values, and their rules. -/
namespace VM
open PySem PySem.Spec PyProof.Rows L2
/-- is an instance of x one of y -/
def isX (x y : Str) : Bool := decide (x = y) || decide (y = "ReadError")
def mExc (cn : Str) (a : ME) : ME := fun xc s eh q => a xc s eh fun x eh1 => q (.exc cn x) eh1
def mXv (es : List Str) (a : ME) : ME := fun xc s eh q => a xc s eh fun x eh1 => ∃ C y, x = .exc C y ∧ C ∈ es ∧ q y eh1
section
variable {X : Cx} {E : XK} {e : Expr} {ma : ME} {p pos kp : Pos} {es : List Str} {f D : Addr} {cn : Str}
/-- d[k] += e of ints -/
def sDAugE (md mk mv : ME) : MS := fun xc d s eh => md xc s eh fun x eh1 => mk xc s eh1 fun y eh2 => ∃ p kvs key i, x = .ref p ∧ eh2 p = some (.dct kvs) ∧ keyE y = some key ∧ getK kvs key = some (.int i) ∧
  mv xc s eh2 fun z eh3 => ∃ j kvs', z = .int j ∧ eh3 p = some (.dct kvs') ∧ kvs'.length < sizeLine ∧ d.nx s (eupd eh3 p (some (.dct (putKE kvs' key (.int (i + j))))))
end
end VM

/-! VMX4: raise, calls that may raise, try .. except X as n whose exception is held. -/
namespace VM
open PySem PySem.Spec PyProof.Rows L2
/-! ### the hand layer: an except suite whose exception is tracked -/
section
variable {X : Cx} {pins : List (Addr × Obj)} {σ : L2.St} {H : Hp} {sI s s' : Shared} {B : Heap} {a : Addr} {oe : Obj} {vs : Array Value} {cls : Value} {d : Option Addr}
end
section
variable {X : Cx} {x n : Str} {c : Value} {i : Nat} {body suite : List Stmt} {b₀ : Stmt} {np pos pos' : Pos} {tb : WX → TS} {ts : Addr → TS}
end
/-! ### raise -/
section
variable {X : Cx} {E : XK} {e : Expr} {ma : ME} {p pos pos' : Pos} {es : List Str} {f D : Addr} {cn : Str}
end
/-! ### calls that may raise, at the slots as they stand -/
theorem XOk.tr {K mg Hd eh H xc} : XOk K mg (fun _ _ _ => True) Hd eh H xc := fun _ _ _ _ _ _ _ _ _ _ _ _ _ => trivial
section
variable {X : Cx} {W : WX} {k np : Nat} {f : Addr} {fd : FuncData} {ps : List Str} {F : FN} {dvs : List V} {ds : List Value} {dx : List EV} {x : Str} {p pos : Pos} {e : Expr} {es : List Expr} {t : MA} {m : ME}
end
/-! ### try -/
section
variable {X : Cx} {E : XK} {es : List Str} {f D : Addr} {cn n : Str} {i : Nat} {body suite : List Stmt} {b₀ : Stmt} {np pos pos' : Pos} {mb ms : MS}
end
end VM

/-! VMX5: dict.get, dict.pop with a default, str.split, list.index and list.count of bools, isinstance with a tuple of error classes, repr of dicts. -/
namespace VM
open PySem PySem.Spec PyProof.Rows L2
section
variable {X : Cx} {E : XK} {o e f : Expr} {ma mb mc : ME} {apos cpos : Pos}
/-! ### d.get(k, x), d.pop(k, x) -/
def dropKE (kvs : List (Key × EV)) (k : Key) : List (Key × EV) := kvs.filter fun kv => decide (kv.1 ≠ k)
theorem RpK.drop {K mg Hd} {eh : Eh} {H : Hp} {k : Key} : ∀ {xs : List (Key × EV)} {us : List (Key × V)}, RpK K mg Hd eh H xs us → RpK K mg Hd eh H (dropKE xs k) (dropK us k)
  | [], _, h => by cases h; rfl
  | (k', y) :: xs, _, ⟨w, r, e, h, t⟩ => by
    subst e
    have ih := RpK.drop (k := k) t
    by_cases hk : k' = k
    · have e1 : dropKE ((k', y) :: xs) k = dropKE xs k := by simp [dropKE, hk]
      have e2 : dropK ((k', w) :: r) k = dropK r k := by simp [dropK, hk]
      rw [e1, e2]; exact ih
    · have e1 : dropKE ((k', y) :: xs) k = (k', y) :: dropKE xs k := by simp [dropKE, hk]
      have e2 : dropK ((k', w) :: r) k = (k', w) :: dropK r k := by simp [dropK, hk]
      rw [e1, e2]; exact ⟨w, _, rfl, h, ih⟩
/-! ### x.split(b) -/
/-! ### bs.index(b), bs.count(b) of bools -/
/-! ### isinstance(e, (A, B, ..)) -/
/-! ### repr of a dict whose values hold no lists -/
end
end VM

/-! VMX6: sorted(xs) of data (tuples of the same build); calls that never raise within a try's body. -/
namespace VM
open PySem PySem.Spec PyProof.Rows L2
def sortT (xs : List EV) : List EV := xs.mergeSort (W.dataLe false D)
def bSortT : EOL := fun xs eh q => ∃ x ys, xs = [x] ∧ lstE eh x = some ys ∧ ys.all isD = true ∧ W.AllAlike (ys.map D) ∧ W.Sortable (ys.map D) ∧ (∀ y ∈ ys, (D y).depth ≤ 60) ∧ q (.lst (sortT ys)) eh
section
variable {X : Cx}
theorem cb_sortT {k : Nat} (hr : RoomG k X.A) : CallR X (.builtin "sorted") (UL X.K X.mw bSortT) := by
  intro pins s σ H vs0 us Q I r h
  obtain ⟨Hd, eh, zs, q, R, rz, ⟨x, xs, rfl, hx, hd, hal, hsk, hdp, m⟩, kk⟩ := h
  obtain ⟨v, rfl, rx⟩ := one_of rz
  obtain ⟨a, vs, rfl, ha, rl⟩ := lst_of R rx hx
  rw [Vals.ref1 r]
  obtain ⟨its, rv, hls, hz⟩ := I.list (.inl (.inl ha))
  have hlen : vs.length = xs.length := rl.length.symm
  have hzs := zip_snd (as := vs) (bs := xs) hlen
  have hea : W.EachIs (fun (u : Value) (b : V × EV) => RelV b.1 u ∧ Rp X.K X.mw Hd eh H b.2 b.1) its (vs.zip xs) := by
    refine eachIs_zip (by rw [List.length_zip, ← rv.length, hlen, Nat.min_self]) fun i u b hu hb => ?_
    rw [List.getElem?_zip_eq_some] at hb
    obtain ⟨x', hx', r'⟩ := rl.get' hb.1
    rw [hb.2] at hx'; cases hx'
    obtain ⟨u', hu', rr'⟩ := rv.get hb.1
    rw [hu] at hu'; cases hu'
    exact ⟨rr', r'⟩
  have hmem : ∀ b ∈ vs.zip xs, b.2 ∈ xs := fun b hb => (List.of_mem_zip hb).2
  have her : W.EachIs (fun (u : Value) (b : V × EV) => ∃ as, Reads s.heap u (D b.2) as) its (vs.zip xs) := by
    refine eachIs_zip (by rw [List.length_zip, ← rv.length, hlen, Nat.min_self]) fun i u b hu hb => ?_
    have hb' : b ∈ vs.zip xs := List.mem_of_getElem? hb
    obtain ⟨u', hu', h1, h2⟩ := eachIs_get hea i b hb
    rw [hu] at hu'; cases hu'
    exact (Dat.of eh (List.all_eq_true.mp hd b.2 (hmem b hb'))).reads I R _ _ h2 h1
  have hmap : (vs.zip xs).map (fun b => D b.2) = xs.map D := by
    have : (vs.zip xs).map (fun b => D b.2) = ((vs.zip xs).map (·.2)).map D := by rw [List.map_map]; rfl
    rw [this, hzs]
  refine PySem.W.sorted_data (β := V × EV) (enc := fun b => D b.2) hls.isList hea her (by rw [hmap]; exact hal) (by rw [hmap]; exact hsk) (by rw [List.length_zip, hlen, Nat.min_self]; omega) (fun b hb => ?_) fun out ho hout => ?_
  · have h1 := hdp b.2 (hmem b hb)
    have := hr.units
    omega
  · have ep := each_vals hout
    have hL2 : ((vs.zip xs).mergeSort (W.dataLe false fun b => D b.2)).length ≤ sizeLine := by
      rw [(List.mergeSort_perm _ _).length_eq, List.length_zip, hlen, Nat.min_self]; omega
    have hrp : RpL X.K X.mw Hd eh H (((vs.zip xs).mergeSort (W.dataLe false fun b => D b.2)).map (·.2)) (((vs.zip xs).mergeSort (W.dataLe false fun b => D b.2)).map (·.1)) := rpL_of fun b hb => by
      have hb' := (List.mergeSort_perm _ _).mem_iff.mp hb
      obtain ⟨i, hi⟩ := mem_get hb'
      obtain ⟨u, _, h2⟩ := eachIs_get hea i b hi
      exact h2.2
    have hsort : ((vs.zip xs).mergeSort (W.dataLe false fun b => D b.2)).map (·.2) = sortT xs := by
      rw [PySem.W.sort_maps (r := W.dataLe false fun b : V × EV => D b.2) (s := W.dataLe false D) (fun b : V × EV => b.2) (fun _ _ _ _ => rfl), hzs]; rfl
    rw [hsort] at hrp
    obtain ⟨ep2, he'⟩ := PyProof.Rows.sortedAll_at s.heap its out.toArray
    have n2 : H (s.heap.objs.size + 1) = none := I.hok.fresh (Nat.le_succ _)
    refine ⟨.ref _, upd H (s.heap.objs.size + 1) (.lst (((vs.zip xs).mergeSort (W.dataLe false fun b => D b.2)).map (·.1))), I.laid (t' := s.toks) (fun _ _ => PyProof.Rows.sortedAll_old) (Nat.le_succ _) ⟨by rw [List.length_map]; exact hL2, out, ep2, ep, by simpa using he'⟩, rfl, ?_⟩
    have st : Step eh H eh (upd H (s.heap.objs.size + 1) (.lst (((vs.zip xs).mergeSort (W.dataLe false fun b => D b.2)).map (·.1)))) := .newF n2
    exact kk eh _ (.lst (sortT xs)) (.ref _) st (R.newF n2) ⟨_, _, rfl, upd_same, ⟨R.fresh n2, R.notHid n2⟩, hrp.step st⟩ m
end
end VM

/-! VMX7: texts: partition, count, endswith, join, int(text), str(int), text * int, text[i]; a, b = list; calls of raising defs that are shown not to raise; [f(x)] in a try; == of texts in an except suite. -/
namespace VM
open PySem PySem.Spec PyProof.Rows L2
section
variable {X : Cx} {E : XK} {e : Expr} {ma : ME} {pos : Pos}
/-! ### methods of texts -/
/-! ### int(text), str(int) -/
/-! ### text * int -/
/-! ### text[i] -/
/-! ### a, b = list -/
/-! ### calls of defs that may raise, where they do not -/
/-! ### return [f(x)] in a try -/
/-! ### == of texts, anywhere -/
end
end VM

/-! VMX8: {k: v for ..}, list(d.values()), count of texts, list(range(n)), tuple(range(n)), dict(pairs), {e: f}. -/
namespace VM
open PySem PySem.Spec PyProof.Rows L2
/-! ### t[::-1] of a tuple -/
section
variable {prog : Program} {w : World} {A : Around} {E : Value → Shared → Prop} {s : Shared}
end
/-! ### {k: v for x in xs if t}: an explicit dict -/
section
variable {K : PySem.W.Frag} {mg : MW} {E : XK}
end
section
variable {X : Cx} {E : XK} {e kx vx tg iter : Expr} {ifs : List Expr} {scope : Scope} {own : List (Str × Nat)} {ma mk mv : ME} {mi : MI} {g : Tg} {tt : MT} {p pos : Pos}
/-! ### list(range(n)), tuple(range(n)) -/
/-! ### xs.count(text) -/
/-! ### dict(pairs): a dict that nobody writes -/
/-! ### dict(pairs) -/
/-! ### {e: f} -/
/-! ### list(d.values()) -/
end
end VM

/-! VMX9: list(zip(texts, xs)); t[::-1] as a rule. -/
namespace VM
open PySem PySem.Spec PyProof.Rows L2
/-- where the walk over a zip stands; the tuples given out are all kept -/
def ZlSt (z TI TO i1 i2 l1 l2 S : Addr) (xs ys : Array Value) (h : Heap) (i : Nat) : Prop :=
  IsPair h TI (.ref i1) (.ref i2) ∧ h.IsListIter i1 l1 i ∧ h.IsListIter i2 l2 i ∧ h.IsList l1 xs ∧ h.IsList l2 ys ∧
    ((IsZip h z TI TO .none ∧ ∃ a b, IsPair h TO a b) ∨ ∃ T f oT, PySem.IsZipHeld h z TI TO T f ∧ h.get? T = some oT ∧ T ≠ z ∧ T ≠ i1 ∧ T ≠ i2 ∧ T ≠ S)
section
variable {prog : Program} {w : World} {A : Around} {E : Value → Shared → Prop} {s : Shared} {z TI TO i1 i2 l1 l2 S : Addr} {xs ys : Array Value}
structure ZlAp (z TI TO i1 i2 l1 l2 S : Addr) : Prop where
  d : ZipApart z TI TO i1 i2 l1 l2
  sz : S ≠ z
  sTI : S ≠ TI
  sTO : S ≠ TO
  s1 : S ≠ i1
  s2 : S ≠ i2
  sl1 : S ≠ l1
  sl2 : S ≠ l2
theorem ZlSt.keep (ap : ZlAp z TI TO i1 i2 l1 l2 S) {h h' : Heap} {i : Nat} (st : ZlSt z TI TO i1 i2 l1 l2 S xs ys h i) (hk : ∀ b o, b ≠ S → h.get? b = some o → h'.get? b = some o) : ZlSt z TI TO i1 i2 l1 l2 S xs ys h' i := by
  obtain ⟨a1, a2, a3, a4, a5, a6⟩ := st
  refine ⟨hk _ _ (Ne.symm ap.sTI) a1, a2.at fun o e => hk _ o (Ne.symm ap.s1) e, a3.at fun o e => hk _ o (Ne.symm ap.s2) e, a4.at fun o e => hk _ o (Ne.symm ap.sl1) e, a5.at fun o e => hk _ o (Ne.symm ap.sl2) e, ?_⟩
  rcases a6 with ⟨b1, b2, b3, b4⟩ | ⟨T, f, oT, b1, b2, r1, r2, r3, r4⟩
  · exact .inl ⟨hk _ _ (Ne.symm ap.sz) b1, b2, b3, hk _ _ (Ne.symm ap.sTO) b4⟩
  · exact .inr ⟨T, f, oT, hk _ _ (Ne.symm ap.sz) b1, hk _ _ r4 b2, r1, r2, r3, r4⟩
/-- the tuples that the list holds -/
structure ZlG (xs ys : Array Value) (lo : Addr) (h : Heap) (as : List Addr) : Prop where
  rise : as.Pairwise (· < ·)
  above : ∀ a ∈ as, lo < a
  at_ : ∀ (j : Nat) (a : Addr), as[j]? = some a → ∃ x y, xs[j]? = some x ∧ ys[j]? = some y ∧ IsPair h a x y
theorem ZlG.keep {lo : Addr} {h h' : Heap} {as : List Addr} (g : ZlG xs ys lo h as) (hk : ∀ a ∈ as, ∀ o, h.get? a = some o → h'.get? a = some o) : ZlG xs ys lo h' as :=
  ⟨g.rise, g.above, fun j a hj => let ⟨x, y, e1, e2, e3⟩ := g.at_ j a hj; ⟨x, y, e1, e2, hk a (List.mem_of_getElem? hj) _ e3⟩⟩
theorem ZlG.lt {lo : Addr} {h : Heap} {as : List Addr} (g : ZlG xs ys lo h as) : ∀ a ∈ as, a < h.objs.size := fun a ha => by
  obtain ⟨j, hj⟩ := List.mem_iff_getElem?.mp ha
  obtain ⟨_, _, _, _, e⟩ := g.at_ j a hj
  exact Heap.lt_size e
theorem ZlG.snoc {lo : Addr} {h : Heap} {as : List Addr} {a : Addr} {x y : Value} (g : ZlG xs ys lo h as) (hlt : ∀ b ∈ as, b < a) (hlo : lo < a) (hx : xs[as.length]? = some x) (hy : ys[as.length]? = some y) (e : IsPair h a x y) : ZlG xs ys lo h (as ++ [a]) := by
  refine ⟨List.pairwise_append.mpr ⟨g.rise, List.pairwise_singleton _ _, fun b hb c hc => by rw [List.mem_singleton.mp hc]; exact hlt b hb⟩, fun b hb => ?_, fun j b hj => ?_⟩
  · rcases List.mem_append.mp hb with hb | hb
    · exact g.above b hb
    · rw [List.mem_singleton.mp hb]; exact hlo
  · rcases Nat.lt_trichotomy j as.length with c | c | c
    · rw [List.getElem?_append_left c] at hj
      exact g.at_ j b hj
    · subst c
      rw [List.getElem?_append_right (Nat.le_refl _), Nat.sub_self] at hj
      cases hj
      exact ⟨x, y, hx, hy, e⟩
    · rw [List.getElem?_eq_none (by rw [List.length_append, List.length_singleton]; omega)] at hj
      cases hj
end
section
variable {X : Cx} {pins : List (Addr × Obj)} {σ : L2.St} {H : Hp} {s : Shared}
end
section
variable {X : Cx} {E : XK} {e e2 : Expr} {ma : ME} {ta : MA} {p p2 pos pos2 : Pos}
end
/-! ### sorted(t) of a tuple of data -/
section
variable {prog : Program} {w : World} {A : Around} {E : Value → Shared → Prop} {s : Shared}
end
section
variable {X : Cx}
end
end VM

/-! VMX10: lists lent: within an expression some explicit lists are taken as frozen; behind it they are explicit again. -/
namespace VM
open PySem PySem.Spec PyProof.Rows L2
section
variable {K : PySem.W.Frag} {mg : MW} {Hd : Addr → Prop} {eh : Eh} {H : Hp} {S : Addr → Bool}
section
variable (hL : ∀ a, S a = true → ∃ vs, H a = some (.lst vs))
include hL
end
end
section
variable {X : Cx} {E : XK} {e : Expr}
end
end VM

/-! VMX11: list(d) to be written, list(text), dict(zip(texts, xs)), tuple * int, classes called with keywords alone. -/
namespace VM
open PySem PySem.Spec PyProof.Rows L2
section
variable {X : Cx} {E : XK} {e e2 : Expr} {ma : ME} {ta tk : MA} {p p2 pos pos2 : Pos}
/-! ### list(d), to be written -/
/-! ### list(text) -/
/-! ### tuple * int -/
/-! ### dict(zip(texts, xs)): a dict that may be written -/
/-! ### C(k=v, ..), keywords alone -/
end
end VM

/-! VMX12: isinstance of values of built-in kinds against an own class; == of an instance and such a value by the own __eq__. -/
namespace VM
open PySem PySem.Spec PyProof.Rows L2
/-- the class of a value of a built-in kind -/
def blt (eh : Eh) : EV → Option String
  | .int _ => some "int"
  | .str _ => some "str"
  | .lst _ => some "list"
  | .ref p => match eh p with
    | some (.lst _) => some "list"
    | _ => none
  | _ => none
section
variable {X : Cx} {k np : Nat} {f C : Addr} {fd : FuncData} {ps : List Str} {F : FN} {cn : Str}
end
end VM

/-! VMH0: iterators of lists and tuples that end while an exception is handled; tuples unpacked, comprehensions there. -/
namespace VM
open PySem PySem.Spec PyProof.Rows L2
section
variable {prog : Program} {w : World} {A : Around} {E : Value → Shared → Prop} {s : Shared} {x1 : Addr}
theorem HotAt.keep {h h' : Heap} (hot : HotX.HotAt A x1 h) (k : ∀ o, h.get? x1 = some o → h'.get? x1 = some o) : HotX.HotAt A x1 h' := by
  obtain ⟨a, o, vs, e, d, c⟩ := hot
  exact ⟨a, o, vs, k o e, d, c⟩
end
end VM

/-! VMH1: what runs while an exception is handled whose object is tracked: targets, comprehensions over lists, calls of defs. -/
namespace VM
open PySem PySem.Spec PyProof.Rows L2
/-- the exception at a is tracked -/
def HotE (a : Addr) (H : Hp) : Prop := ∃ cls d, H a = some (exh a cls d)
section
variable {X : Cx} {pins : List (Addr × Obj)} {σ : L2.St} {H : Hp} {s : Shared} {a : Addr}
theorem HotE.ne {b : Addr} (h : HotE a H) (n : H b = none) : a ≠ b := fun z => by
  obtain ⟨_, _, e⟩ := h
  rw [z, n] at e; cases e
end
end VM

/-! VMH2: the same by values: comprehensions over frozen lists, defs called while the exception .exa a C x is handled, except suites whose exception is named by its address. -/
namespace VM
open PySem PySem.Spec PyProof.Rows L2
/-! ### targets -/
section
variable {X : Cx} {a : Addr} {pos : Pos}
end
/-! ### comprehensions -/
section
variable {K : PySem.W.Frag} {mg : MW} {E : XK}
end
section
variable {X : Cx} {E : XK} {a : Addr} {elt tg iter : Expr} {ifs : List Expr} {scope : Scope} {own : List (Str × Nat)} {pos py spos : Pos} {ml : ME} {g : Tg} {tt : MT} {te : ME}
end
/-! ### defs called while the exception at a is handled -/
structure RoomH (k : Nat) (A : Around) : Prop where
  dp : A.depth + 3 * k + 5 < recursionLimit
  un : A.units + 16 * k + 200 < cLine
theorem RoomH.mono {i k : Nat} {A : Around} (r : RoomH k A) (l : i ≤ k) : RoomH i A := ⟨by have := r.dp; omega, by have := r.un; omega⟩
theorem RoomH.deeper {k : Nat} {A : Around} (r : RoomH (k + 1) A) (v : Env) : RoomH k (A.deeper v) := ⟨by have := r.dp; show A.depth + 1 + 3 * k + 5 < _; omega, by have := r.un; show A.units + 3 + 16 * k + 200 < _; omega⟩
section
variable {P : Program} {w : World} {K : PySem.W.Frag} {mg : Str → Option Value} {B : Heap} {k : Nat} {f : Addr} {fd : FuncData} {N ps : List Str} {z qual : Str} {params : Arguments} {body : List Stmt} {scope : Scope} {dvs : List V} {kws : List (Str × V)} {ms : Addr → MS}
end
/-! ### calls, except suites -/
section
variable {X : Cx} {E : XK} {a : Addr} {k np : Nat} {f : Addr} {fd : FuncData} {ps : List Str} {Fa : Addr → FN} {x : Str} {p pos : Pos} {e : Expr} {es : List Expr} {t : MA}
end
section
variable {X : Cx} {E : XK} {es : List Str} {f D : Addr} {cn n : Str} {i : Nat} {body suite : List Stmt} {b₀ : Stmt} {np pos pos' : Pos} {mb : MS} {ms : Addr → MS}
end
/-! ### the exception as a value; == of integers, subscripts of lists, anywhere -/
section
variable {X : Cx} {E : XK} {e : Expr} {m : ME}
end
end VM

/-! VMH3: instances made and methods called that may raise; list.insert, list * int. -/
namespace VM
open PySem PySem.Spec PyProof.Rows L2
section
variable {X : Cx} {W : WX} {k np : Nat} {f C : Addr} {fd : FuncData} {ps : List Str} {F : FN} {dvs : List V} {ds : List Value} {dx : List EV} {cn m : Str} {p pos apos : Pos} {o e : Expr} {es : List Expr} {t : MA}
end
/-! ### list.insert, list * int -/
section
variable {X : Cx}
end
end VM

/-! VMK1: x not in a list of tuples that hold explicit dicts and lists; lists against []; dict.update; displays with two computed keys. -/
namespace VM
open PySem PySem.Spec PyProof.Rows L2
/-! ### not in, each item by its own comparison -/
section
open SeqAt MeetsSeq MeetsSeq2 MeetsSeq3 SeqRoads2 AutoSeq1
variable {prog : Program} {w : World}
end
/-! ### comparisons of nested values at the level of EV -/
/-- x == y answers b, at most so deep -/
inductive EqE (eh : Eh) : Nat → EV → EV → Bool → Prop
  | same {n : Nat} {a : Addr} : EqE eh n (.ref a) (.ref a) true
  | dat {n : Nat} {x y : EV} {d e : PyData} : Dat eh x d → Dat eh y e → d.plain = true → e.plain = true → d.depth ≤ n → EqE eh n x y (PyData.eqv d e)
  | tup {n : Nat} {xs ys : List EV} {e : Nat → Bool} : xs.length = ys.length → (∀ (j : Nat) x y, xs[j]? = some x → ys[j]? = some y → EqE eh n x y (e j)) → EqE eh (n + 1) (.tup xs) (.tup ys) ((List.range xs.length).all e)
  | dct {n : Nat} {a b : Addr} {ka kb : List (Key × EV)} {e : Key → Bool} : a ≠ b → eh a = some (.dct ka) → eh b = some (.dct kb) → (ka.map (·.1)).Nodup → (∀ k x y, (k, x) ∈ ka → getK kb k = some y → EqE eh n x y (e k)) → EqE eh (n + 1) (.ref a) (.ref b) (ka.length == kb.length && ka.all fun p => (getK kb p.1).isSome && e p.1)
theorem relV_uniq {v w : V} {u : Value} (a : L2.RelV v u) (b : L2.RelV w u) : v = w := by
  cases v <;> cases w <;> simp only [L2.RelV] at a b <;>
    first
    | rfl
    | (subst a; cases b; rfl)
    | (obtain ⟨t, rfl⟩ := a; obtain ⟨t', h⟩ := b; cases h; rfl)
    | (subst a; cases b; done)
    | (subst a; obtain ⟨t', h⟩ := b; cases h; done)
    | (subst b; obtain ⟨t', h⟩ := a; cases h; done)
    | (obtain ⟨t, rfl⟩ := a; obtain ⟨t', h⟩ := b; cases h; done)
section
variable {X : Cx} {pins : List (Addr × Obj)} {σ : L2.St} {H : Hp} {s : Shared} {eh : Eh} {Hd : Addr → Prop}
/-- of one value -/
theorem EqE.one (I : Inv X pins σ H s) (R : Rh X.K X.mw Hd eh H) {n : Nat} {x y : EV} {b : Bool} (h : EqE eh n x y b) : ∀ v u, Rp X.K X.mw Hd eh H x v → Rp X.K X.mw Hd eh H y v → RelV v u → b = true := by
  induction h with
  | same => intros; rfl
  | dat dx dy px py _ =>
    intro v u r1 r2 rv
    obtain ⟨as, ra⟩ := dx.reads I R _ _ r1 rv
    obtain ⟨bs, rb⟩ := dy.reads I R _ _ r2 rv
    rw [SeqAt.plain_unique _ _ _ _ _ px ra rb]
    exact SeqAt.eqv_refl_plain _ py
  | @tup n xs ys e hl _ ih =>
    intro v u ⟨a, vs, ev, ha, t1⟩ ⟨a', vs', ev', ha', t2⟩ rv
    subst ev
    cases ev'
    obtain ⟨its, rr, ⟨o, e1, e2, nn, e3⟩, hz⟩ := I.tuple ha
    obtain ⟨its', rr', ⟨o', f1, f2, nn', f3⟩, hz'⟩ := I.tuple ha'
    rw [e1] at f1; cases f1
    rw [e3] at f3; cases f3
    refine List.all_eq_true.mpr fun j hj => ?_
    have hj := List.mem_range.mp hj
    have hx : xs[j]? = some xs[j] := List.getElem?_eq_getElem hj
    have hy : ys[j]? = some (ys[j]'(by omega)) := List.getElem?_eq_getElem (by omega)
    obtain ⟨w, hw, rw1⟩ := t1.get hx
    obtain ⟨w', hw', rw2⟩ := t2.get hy
    obtain ⟨z, hz1, q1⟩ := rr.get hw
    obtain ⟨z', hz2, q2⟩ := rr'.get hw'
    rw [hz1] at hz2; cases hz2
    obtain rfl := relV_uniq q1 q2
    exact ih j _ _ hx hy w z rw1 rw2 q1
  | dct hne =>
    intro v u r1 r2 rv
    cases r1
    cases r2
    exact absurd rfl hne
/-- the comparison in the heap -/
theorem EqE.tree (I : Inv X pins σ H s) (R : Rh X.K X.mw Hd eh H) {n : Nat} {x y : EV} {b : Bool} (h : EqE eh n x y b) : ∀ v u v' u', Rp X.K X.mw Hd eh H x v → RelV v u → Rp X.K X.mw Hd eh H y v' → RelV v' u' → PySem.W.EqTree X.prog X.w s n u u' b := by
  induction h with
  | same =>
    intro v u v' u' r1 q1 r2 q2
    cases r1; cases r2
    cases q1; cases q2
    exact .same
  | dat dx dy px py hz =>
    intro v u v' u' r1 q1 r2 q2
    obtain ⟨as, ra⟩ := dx.reads I R _ _ r1 q1
    obtain ⟨bs, rb⟩ := dy.reads I R _ _ r2 q2
    exact .leaf fun A hu => SeqAt.eqAt_plain _ _ A s _ _ as bs ra rb px py (by omega)
  | @tup n xs ys e hl hh ih =>
    intro v u v' u' r1 q1 r2 q2
    have one := EqE.one I R (EqE.tup (n := n) hl hh)
    obtain ⟨a, vs, ev, ha, t1⟩ := r1
    obtain ⟨a', vs', ev', ha', t2⟩ := r2
    subst ev ev'
    cases q1; cases q2
    by_cases hne : a = a'
    · subst hne
      rw [one (.ref a) (.ref a) ⟨a, vs, rfl, ha, t1⟩ ⟨a, vs', rfl, ha', t2⟩ rfl]
      exact .same
    · obtain ⟨its, rr, tp, hz⟩ := I.tuple ha
      obtain ⟨its', rr', tp', hz'⟩ := I.tuple ha'
      have l1 : its.toArray.size = xs.length := by rw [t1.length, rr.length]; simp
      have l2 : its'.toArray.size = ys.length := by rw [t2.length, rr'.length]; simp
      have tr := PySem.W.EqTree.tuples (prog := X.prog) (w := X.w) (n := n) (e := e) hne tp tp' fun j h1 h2 => by
        have hx : xs[j]? = some (xs[j]'(by omega)) := List.getElem?_eq_getElem (by omega)
        have hy : ys[j]? = some (ys[j]'(by omega)) := List.getElem?_eq_getElem (by omega)
        obtain ⟨w, hw, rw1⟩ := t1.get hx
        obtain ⟨w', hw', rw2⟩ := t2.get hy
        obtain ⟨z, hz1, p1⟩ := rr.get hw
        obtain ⟨z', hz2, p2⟩ := rr'.get hw'
        have e1 : its.toArray[j] = z := by simpa using (List.getElem?_eq_some_iff.mp hz1).2
        have e2 : its'.toArray[j] = z' := by simpa using (List.getElem?_eq_some_iff.mp hz2).2
        rw [e1, e2]
        exact ih j _ _ hx hy _ _ _ _ rw1 p1 rw2 p2
      have e3 : ((List.range (min its.toArray.size its'.toArray.size)).all e && its.toArray.size == its'.toArray.size) = (List.range xs.length).all e := by
        rw [l1, l2, hl, Nat.min_self, beq_self_eq_true, Bool.and_true]
      rw [e3] at tr
      exact tr
  | @dct n a b ka kb e hne ha hb hn hh ih =>
    intro v u v' u' r1 q1 r2 q2
    cases r1; cases r2
    cases q1; cases q2
    obtain ⟨w1, h1, rk1⟩ := R.ob a _ ha
    obtain ⟨w2, h2, rk2⟩ := R.ob b _ hb
    obtain ⟨_, s1, vs1, kv1, do1⟩ := dk_of I.hok h1
    obtain ⟨_, s2, vs2, kv2, do2⟩ := dk_of I.hok h2
    have keys1 : vs1.map (·.1) = ka.map (·.1) := (kv_keys kv1).trans rk1.keys
    have keys2 : vs2.map (·.1) = kb.map (·.1) := (kv_keys kv2).trans rk2.keys
    have l1 : vs1.length = ka.length := by simpa using congrArg List.length keys1
    have l2 : vs2.length = kb.length := by simpa using congrArg List.length keys2
    have some2 : ∀ k, (valueAt vs2 k).isSome = (getK kb k).isSome := fun k => by rw [← lookup_some rk2, ← (kv2.val k).isSome_eq]
    have tr := PySem.W.EqTree.dicts (prog := X.prog) (w := X.w) (n := n) (e := e) hne s1 s2 do1 do2 fun k v y hm hv => by
      obtain ⟨v1, hv1, rv1⟩ := kv_mem kv1 hm
      obtain ⟨x, hx, px⟩ := rpK_mem rk1 hv1
      cases gy : getK kb k with
      | none => have := some2 k; rw [hv, gy] at this; cases this
      | some z =>
        obtain ⟨v2, hv2, pz⟩ := (lookup_valV rk2).1 z gy
        have rel := kv2.val k
        rw [hv, hv2] at rel
        exact ih k x z hx gy _ _ _ _ px rv1 pz rel
    have e3 : (vs1.length == vs2.length && vs1.all fun p => (valueAt vs2 p.1).isSome && e p.1) = (ka.length == kb.length && ka.all fun p => (getK kb p.1).isSome && e p.1) := by
      rw [l1, l2]
      congr 1
      have f1 : (vs1.all fun p => (valueAt vs2 p.1).isSome && e p.1) = (vs1.map (·.1)).all fun k => (getK kb k).isSome && e k := by
        rw [List.all_map]
        congr 1
        funext p
        show ((valueAt vs2 p.1).isSome && e p.1) = ((getK kb p.1).isSome && e p.1)
        rw [some2]
      rw [f1, keys1, List.all_map]; rfl
    rw [e3] at tr
    exact tr
end
/-! ### x not in xs, x == [] -/
section
variable {X : Cx}
end
/-! ### d.update(e) -/
section
variable {X : Cx}
end
/-! ### {e: f, g: h} -/
section
variable {X : Cx} {E : XK} {pos : Pos} {k v k' v' : Expr} {m1 m2 m3 m4 : ME}
end
end VM

/-! VMK2: list * int to be written. -/
namespace VM
open PySem PySem.Spec PyProof.Rows L2
/-! ### an explicit dict's methods -/
section
variable {X : Cx}
end
/-! ### name = {k: v for ..}, the name a local -/
section
variable {X : Cx} {E : XK} {kx vx tg iter : Expr} {ifs : List Expr} {scope : Scope} {own : List (Str × Nat)} {mk mv : ME} {mi : MI} {g : Tg} {tt : MT} {pos : Pos}
end
end VM

/-! VMK3: dicts whose keys are tuples (EO.dN): d[k], k in d, d[k] = v, list(d), sorted(d), {k: v for ..}. -/
namespace VM
open PySem PySem.Spec PyProof.Rows L2
open PySem.W (EachIs)
mutual
/-- the key that a tree is -/
def keyN : EV → Option NestedKey
  | .non => some .none
  | .int i => some (.num i)
  | .str x => some (.text x)
  | .tup xs => (keysN xs).map .tup
  | _ => none
def keysN : List EV → Option (List NestedKey)
  | [] => some []
  | x :: xs => match keyN x, keysN xs with
    | some k, some ks => some (k :: ks)
    | _, _ => none
end
mutual
/-- the tree that a key is -/
def evK : NestedKey → EV
  | .none => .non
  | .num i => .int i
  | .text x => .str x
  | .tup ks => .tup (evKs ks)
def evKs : List NestedKey → List EV
  | [] => []
  | k :: ks => evK k :: evKs ks
end
def getN (kvs : List (NestedKey × EV)) (k : NestedKey) : Option EV := (kvs.find? fun p => decide (p.1 = k)).map (·.2)
def putN (kvs : List (NestedKey × EV)) (k : NestedKey) (v : EV) : List (NestedKey × EV) :=
  if (getN kvs k).isSome then kvs.map fun p => if p.1 = k then (p.1, v) else p else kvs ++ [(k, v)]
section
variable {K : PySem.W.Frag} {mg : MW} {Hd : Addr → Prop} {eh eh' : Eh} {H H' : Hp}
mutual
theorem keyIs_of : ∀ {x : EV} {v : V} {k : NestedKey}, Rp K mg Hd eh H x v → keyN x = some k → KeyIs K H k v
  | .non, _, _, r, e => by rw [← Option.some.inj (show some NestedKey.none = some _ from e)]; exact r
  | .int i, _, _, r, e => by rw [← Option.some.inj (show some (NestedKey.num i) = some _ from e)]; exact r
  | .str x, _, _, r, e => by rw [← Option.some.inj (show some (NestedKey.text x) = some _ from e)]; exact r
  | .tup xs, _, k, ⟨a, vs, ev, h, r⟩, e => by
    have e : (keysN xs).map NestedKey.tup = some k := e
    cases e1 : keysN xs with
    | none => rw [e1] at e; cases e
    | some ks => rw [e1] at e; rw [← Option.some.inj (show some (NestedKey.tup ks) = some k from e)]; exact ⟨a, vs, ev, h, keysAre_of r e1⟩
  | .bl _, _, _, _, e => nomatch (show none = some _ from e)
  | .ty _, _, _, _, e => nomatch (show none = some _ from e)
  | .ref _, _, _, _, e => nomatch (show none = some _ from e)
  | .glo _, _, _, _, e => nomatch (show none = some _ from e)
  | .scr _, _, _, _, e => nomatch (show none = some _ from e)
  | .lst _, _, _, _, e => nomatch (show none = some _ from e)
  | .dct _, _, _, _, e => nomatch (show none = some _ from e)
  | .obj _ _, _, _, _, e => nomatch (show none = some _ from e)
  | .exc _ _, _, _, _, e => nomatch (show none = some _ from e)
  | .exa _ _ _, _, _, _, e => nomatch (show none = some _ from e)
  | .dn _, _, _, _, e => nomatch (show none = some _ from e)
theorem keysAre_of : ∀ {xs : List EV} {vs : List V} {ks : List NestedKey}, RpL K mg Hd eh H xs vs → keysN xs = some ks → KeysAre K H ks vs
  | [], _, _, r, e => by rw [← Option.some.inj (show some [] = some _ from e)]; exact r
  | x :: xs, _, ks', ⟨v, w, ev, h, r⟩, e => by
    have e : (match keyN x, keysN xs with
      | some k, some ks => some (k :: ks)
      | _, _ => none) = some ks' := e
    cases e1 : keyN x with
    | none => rw [e1] at e; cases e
    | some k => cases e2 : keysN xs with
      | none => rw [e1, e2] at e; cases e
      | some ks => rw [e1, e2] at e; rw [← Option.some.inj (show some (k :: ks) = some ks' from e)]; exact ⟨v, w, ev, keyIs_of h e1, keysAre_of r e2⟩
end
mutual
theorem rp_evK : ∀ {k : NestedKey} {v : V}, KeyIs K H k v → Rp K mg Hd eh H (evK k) v
  | .none, _, h => h
  | .num _, _, h => h
  | .text _, _, h => h
  | .tup _, _, ⟨a, vs, e, h, r⟩ => ⟨a, vs, e, h, rpL_evKs r⟩
theorem rpL_evKs : ∀ {ks : List NestedKey} {vs : List V}, KeysAre K H ks vs → RpL K mg Hd eh H (evKs ks) vs
  | [], _, h => h
  | _ :: _, _, ⟨v, r, e, h, t⟩ => ⟨v, r, e, rp_evK h, rpL_evKs t⟩
end
/-- the rows of the tree, of the object -/
def RowsN (K : PySem.W.Frag) (mg : MW) (Hd : Addr → Prop) (eh : Eh) (H : Hp) : List (NestedKey × EV) → List (NestedKey × Addr × Value) → Prop
  | [], xs => xs = []
  | (k, z) :: kvs, xs => ∃ a u v r, xs = (k, a, u) :: r ∧ KeyIs K H k (.ref a) ∧ k.depth ≤ 8 ∧ RelV v u ∧ Rp K mg Hd eh H z v ∧ RowsN K mg Hd eh H kvs r
theorem RowsN.of : ∀ {kvs : List (NestedKey × EV)} {xs : List (NestedKey × Addr × Value)} {us : List V}, kvs.map (·.1) = xs.map (·.1) → (∀ x ∈ xs, KeyIs K H x.1 (.ref x.2.1) ∧ x.1.depth ≤ 8) → Vals us (xs.map (·.2.2)) → RpL K mg Hd eh H (kvs.map (·.2)) us → RowsN K mg Hd eh H kvs xs
  | [], [], _, _, _, _, _ => rfl
  | [], _ :: _, _, e, _, _, _ => by simp at e
  | _ :: _, [], _, e, _, _, _ => by simp at e
  | (k, z) :: kvs, (k', a, u) :: xs, us, e, h, rv, rl => by
    simp only [List.map_cons, List.cons.injEq] at e
    obtain ⟨e1, e2⟩ := e
    cases e1
    obtain ⟨v, us', eu, r, t⟩ := rl
    subst eu
    cases rv with
    | cons h1 h2 => exact ⟨a, u, v, xs, rfl, (h (k, a, u) (by simp)).1, (h (k, a, u) (by simp)).2, h1, r, RowsN.of e2 (fun x hx => h x (by simp [hx])) h2 t⟩
theorem RowsN.out : ∀ {kvs : List (NestedKey × EV)} {xs : List (NestedKey × Addr × Value)}, RowsN K mg Hd eh H kvs xs → kvs.map (·.1) = xs.map (·.1) ∧ (∀ x ∈ xs, KeyIs K H x.1 (.ref x.2.1) ∧ x.1.depth ≤ 8) ∧ ∃ us, Vals us (xs.map (·.2.2)) ∧ RpL K mg Hd eh H (kvs.map (·.2)) us
  | [], _, h => by cases h; exact ⟨rfl, fun _ h => absurd h (by simp), [], Paired.nil, rfl⟩
  | (k, z) :: kvs, _, ⟨a, u, v, r, e, h1, h2, h3, h4, t⟩ => by
    subst e
    obtain ⟨i1, i2, us, i3, i4⟩ := t.out
    refine ⟨by simp [i1], fun x hx => ?_, v :: us, Paired.cons h3 i3, RpL.cons h4 i4⟩
    rcases List.mem_cons.mp hx with e | hx
    · subst e; exact ⟨h1, h2⟩
    · exact i2 x hx
theorem RowsN.step (s : Step eh H eh' H') : ∀ {kvs : List (NestedKey × EV)} {xs : List (NestedKey × Addr × Value)}, RowsN K mg Hd eh H kvs xs → RowsN K mg Hd eh' H' kvs xs
  | [], _, h => h
  | _ :: _, _, ⟨a, u, v, r, e, h1, h2, h3, h4, t⟩ => ⟨a, u, v, r, e, h1.ext fun _ _ w => SqT.step s w, h2, h3, h4.step s, t.step s⟩
theorem RowsN.get {k : NestedKey} : ∀ {kvs : List (NestedKey × EV)} {xs : List (NestedKey × Addr × Value)}, RowsN K mg Hd eh H kvs xs → match getN kvs k with
    | some z => ∃ a u v, atKey xs k = some (a, u) ∧ RelV v u ∧ Rp K mg Hd eh H z v
    | none => atKey xs k = none
  | [], _, h => by cases h; rfl
  | (k', z) :: kvs, _, ⟨a, u, v, r, e, h1, h2, h3, h4, t⟩ => by
    subst e
    by_cases hk : k' = k
    · have e1 : getN ((k', z) :: kvs) k = some z := by simp [getN, hk]
      rw [e1]
      exact ⟨a, u, v, by simp [atKey, hk], h3, h4⟩
    · have e1 : getN ((k', z) :: kvs) k = getN kvs k := by simp [getN, hk]
      have e2 : atKey ((k', a, u) :: r) k = atKey r k := by simp [atKey, hk]
      rw [e1, e2]
      exact t.get
theorem RowsN.map {k : NestedKey} {z : EV} {v : V} {u : Value} (rv : RelV v u) (rz : Rp K mg Hd eh H z v) : ∀ {kvs : List (NestedKey × EV)} {xs : List (NestedKey × Addr × Value)}, RowsN K mg Hd eh H kvs xs → RowsN K mg Hd eh H (kvs.map fun p => if p.1 = k then (p.1, z) else p) (xs.map (putAt k u))
  | [], _, h => by cases h; rfl
  | (k', z') :: kvs, _, ⟨a, u', v', r, e, h1, h2, h3, h4, t⟩ => by
    subst e
    by_cases hk : k' = k
    · subst hk
      simp only [List.map_cons, if_true]
      exact ⟨a, u, v, r.map (putAt k' u), by simp [putAt], h1, h2, rv, rz, t.map rv rz⟩
    · simp only [List.map_cons, if_neg hk]
      exact ⟨a, u', v', r.map (putAt k u), by simp [putAt, hk], h1, h2, h3, h4, t.map rv rz⟩
theorem RowsN.app : ∀ {kvs ls : List (NestedKey × EV)} {xs ys : List (NestedKey × Addr × Value)}, RowsN K mg Hd eh H kvs xs → RowsN K mg Hd eh H ls ys → RowsN K mg Hd eh H (kvs ++ ls) (xs ++ ys)
  | [], _, _, _, h, t => by cases h; exact t
  | _ :: _, _, _, _, ⟨a, u, v, r, e, h1, h2, h3, h4, t⟩, q => by subst e; exact ⟨a, u, v, r ++ _, rfl, h1, h2, h3, h4, t.app q⟩
theorem RowsN.put {k : NestedKey} {b : Addr} {z : EV} {v : V} {u : Value} {kvs : List (NestedKey × EV)} {xs : List (NestedKey × Addr × Value)} (h : RowsN K mg Hd eh H kvs xs) (kb : KeyIs K H k (.ref b)) (hd : k.depth ≤ 8) (rv : RelV v u) (rz : Rp K mg Hd eh H z v) :
    RowsN K mg Hd eh H (putN kvs k z) (storedH xs k b u) := by
  have g := h.get (k := k)
  unfold putN storedH
  cases e : getN kvs k with
  | none =>
    rw [e] at g
    rw [g]
    exact h.app ⟨b, u, v, [], rfl, kb, hd, rv, rz, rfl⟩
  | some y =>
    rw [e] at g
    obtain ⟨a, w, _, e2, _⟩ := g
    rw [e2]
    exact h.map rv rz
theorem RowsN.length : ∀ {kvs : List (NestedKey × EV)} {xs : List (NestedKey × Addr × Value)}, RowsN K mg Hd eh H kvs xs → kvs.length = xs.length
  | [], _, h => by cases h; rfl
  | _ :: _, _, ⟨a, u, v, r, e, h1, h2, h3, h4, t⟩ => by subst e; simp [t.length]
end
section
variable {X : Cx} {pins : List (Addr × Obj)} {σ : L2.St} {H : Hp} {s : Shared} {Hd : Addr → Prop} {eh : Eh}
mutual
theorem nestedIs_of (I : Inv X pins σ H s) : ∀ {k : NestedKey} {v : V} {u : Value}, KeyIs X.K H k v → RelV v u → NestedIs s.heap k u
  | .none, _, _, h, r => by cases h; cases r; exact .none
  | .num i, _, _, h, r => by cases h; obtain ⟨t, rfl⟩ := r; exact .int i t
  | .text x, _, _, h, r => by cases h; obtain ⟨t, rfl⟩ := r; exact .text x t
  | .tup ks, _, _, ⟨a, vs, e, h, t⟩, r => by
    subst e
    cases r
    obtain ⟨its, rv, ⟨o, e1, e2, n, e3⟩, _⟩ := I.tuple h
    exact .tup e1 e2 e3 (nestedAll_of I t (by simpa using rv))
theorem nestedAll_of (I : Inv X pins σ H s) : ∀ {ks : List NestedKey} {vs : List V} {us : List Value}, KeysAre X.K H ks vs → Vals vs us → NestedAll s.heap ks us
  | [], _, _, h, r => by cases h; cases r; exact .nil
  | _ :: _, _, _, ⟨v, w, e, h, t⟩, r => by
    subst e
    cases r with
    | cons r1 r2 => exact .cons (nestedIs_of I h r1) (nestedAll_of I t r2)
end
/-- the dict as the library reads it -/
theorem dictN_at (I : Inv X pins σ H s) {a : Addr} {xs : List (NestedKey × Addr × Value)} (h : H a = some (dictN X.w a xs)) (hk : ∀ x ∈ xs, KeyIs X.K H x.1 (.ref x.2.1) ∧ x.1.depth ≤ 8) : s.heap.DictOfH (nestedKind X.prog X.w) a xs := by
  obtain ⟨⟨o, es, ep, h1, h2, h3, h4, h5⟩, _⟩ := (show ObjOk X.prog X.w H s.heap a (dictN X.w a xs) from I.hok a _ h)
  exact ⟨o, es, ep, h1, h2, h3, h4, fun x hx => ⟨nestedIs_of I (hk x hx).1 rfl, (hk x hx).2⟩, h5⟩
theorem dictN_new {h : Heap} {a : Addr} {xs : List (NestedKey × Addr × Value)} {H : Hp} (dd : h.DictOfH (nestedKind X.prog X.w) a xs) : ObjOk X.prog X.w H h a (dictN X.w a xs) := by
  obtain ⟨o, es, ep, h1, h2, h3, h4, _, h5⟩ := dd
  exact ⟨⟨o, es, ep, h1, h2, h3, h4, h5⟩, ⟨o, h1⟩, fun g1 g2 ⟨o', es', ep', q1, q2⟩ st => ⟨o', es', ep', st o' q1, q2⟩⟩
theorem roomN {A : Around} (h : A.units + 64 < cLine) : (nestedKind X.prog X.w).room A.in1 := by
  show A.in1.units + 8 < cLine
  have : A.in1.units ≤ A.units + 1 := by first | exact Nat.le_refl _ | (show A.units + 1 ≤ A.units + 1; exact Nat.le_refl _)
  omega
theorem roomN0 {A : Around} (h : A.units + 64 < cLine) : (nestedKind X.prog X.w).room A := by
  show A.units + 8 < cLine
  omega
/-- what the state says of a dict with tuple keys -/
theorem Rh.dN (R : Rh X.K X.mw Hd eh H) {p : Addr} {kvs : List (NestedKey × EV)} (h : eh p = some (.dN kvs)) :
    ∃ xs, H p = some (dictN X.w p xs) ∧ (p == sysModules) = false ∧ xs.length ≤ sizeLine ∧ RowsN X.K X.mw Hd eh H kvs xs := by
  obtain ⟨xs, us, h1, h2, h3, h4, h5, h6, h7⟩ := R.ob p _ h
  exact ⟨xs, h1, h2, h3, .of h4 h5 h6 h7⟩
theorem rpO_dN {p : Addr} {kvs : List (NestedKey × EV)} {xs : List (NestedKey × Addr × Value)} (h : H p = some (dictN X.w p xs)) (hp : (p == sysModules) = false) (hz : xs.length ≤ sizeLine) (r : RowsN X.K X.mw Hd eh H kvs xs) : RpO X.K X.mw Hd eh H p (.dN kvs) := by
  obtain ⟨h1, h2, us, h3, h4⟩ := r.out
  exact ⟨xs, us, h, hp, hz, h1, h2, h3, h4⟩
/-- a tuple that is a key -/
theorem ref_of_tup {x : EV} {v : V} {ks : List NestedKey} (r : Rp X.K X.mw Hd eh H x v) (e : keyN x = some (.tup ks)) : ∃ b, v = .ref b := by
  obtain ⟨b, _, e, _⟩ := keyIs_of r e
  exact ⟨b, e⟩
/-- d[k] -/
def oIxN : EO2 := fun x y eh q => ∃ p kvs ks z, x = .ref p ∧ eh p = some (.dN kvs) ∧ keyN y = some (.tup ks) ∧ (NestedKey.tup ks).depth ≤ 8 ∧ getN kvs (.tup ks) = some z ∧ q z eh
theorem ix_N {k : Nat} (hr : RoomG k X.A) : IxR X (U2 X.K X.mw oIxN) := by
  have hu := hr.units
  intro value slice pins s σ H v u a b Q I r1 r2 ⟨Hd, eh, x, y, q, R, rx, ry, ⟨p, kvs, ks, z, ex, ep, ek, hd, hz, m⟩, k⟩ hs
  subst ex
  cases rx
  cases r1
  obtain ⟨xs, h1, h2, h3, rows⟩ := R.dN ep
  obtain ⟨b', rfl⟩ := ref_of_tup ry ek
  cases r2
  have hkey : (nestedKind X.prog X.w).is s.heap (.tup ks) b' := ⟨nestedIs_of I (keyIs_of ry ek) rfl, hd⟩
  have g := rows.get (k := .tup ks)
  rw [hz] at g
  obtain ⟨ka, uu, vv, e1, rv, rz⟩ := g
  have dd := dictN_at I h1 rows.out.2.1
  have tI := dd.typeIs
  unfold subscriptTail
  refine wpAny_bind ?_
  rw [getitemInPython_of_ne tI.not_modules]
  refine wpAny_bind (wpAny_specialOf tI PySem.F.slot_dict_getitem.lookup ?_)
  have fin : wpAny (model X.prog X.w) X.A (subscripted slice false (.ref p) (.ref b')) (fun r s₃ => wpAny (model X.prog X.w) X.A (letTemporaryGo value (.ref p) r >>= fun _ => pure r) (EP X pins σ Q) X.xe s₃) X.xe s := by
    rw [hs]
    exact wpAny_operating (wpAny_getItem_heap (roomN hu) hkey dd e1 (wpAny_bind (wpAny_letTemporaryGo (wpAny_pure ⟨vv, H, I.tok _, rv, k eh H z vv .refl R rz m⟩))))
  first
    | exact wpAny_pure (wpAny_bind fin)
    | exact wpAny_bind (wpAny_pure (wpAny_bind fin))
    | exact wpAny_bind fin
/-- k in d, k not in d -/
def cInN (neg : Bool) : EO2 := fun x y eh q => ∃ p kvs ks, y = .ref p ∧ eh p = some (.dN kvs) ∧ keyN x = some (.tup ks) ∧ (NestedKey.tup ks).depth ≤ 8 ∧ q (.bl (neg != (getN kvs (.tup ks)).isSome)) eh
theorem op_inN {k : Nat} (hr : RoomG k X.A) : OpR X (compareOp .In) (U2 X.K X.mw (cInN false)) := by
  have hu := hr.units
  intro pins s σ H v u a b Q I r1 r2 ⟨Hd, eh, x, y, q, R, rx, ry, ⟨p, kvs, ks, ex, ep, ek, hd, m⟩, k⟩
  subst ex
  cases ry
  cases r2
  obtain ⟨xs, h1, h2, h3, rows⟩ := R.dN ep
  obtain ⟨b', rfl⟩ := ref_of_tup rx ek
  cases r1
  have hkey : (nestedKind X.prog X.w).is s.heap (.tup ks) b' := ⟨nestedIs_of I (keyIs_of rx ek) rfl, hd⟩
  have g := rows.get (k := .tup ks)
  refine wpAny_in_heap (roomN hu) hkey h2 (dictN_at I h1 rows.out.2.1) ⟨.bl _, H, I.tok _, rfl, ?_⟩
  have e : (atKey xs (.tup ks)).isSome = (getN kvs (.tup ks)).isSome := by
    cases e : getN kvs (.tup ks) with
    | none => rw [e] at g; rw [g]; rfl
    | some z => rw [e] at g; obtain ⟨_, _, _, e1, _⟩ := g; rw [e1]; rfl
  rw [e]
  exact k eh H (.bl _) (.bl _) .refl R (by simp [Rp]) m
theorem op_notinN {k : Nat} (hr : RoomG k X.A) : OpR X (compareOp .NotIn) (U2 X.K X.mw (cInN true)) := by
  have hu := hr.units
  intro pins s σ H v u a b Q I r1 r2 ⟨Hd, eh, x, y, q, R, rx, ry, ⟨p, kvs, ks, ex, ep, ek, hd, m⟩, k⟩
  subst ex
  cases ry
  cases r2
  obtain ⟨xs, h1, h2, h3, rows⟩ := R.dN ep
  obtain ⟨b', rfl⟩ := ref_of_tup rx ek
  cases r1
  have hkey : (nestedKind X.prog X.w).is s.heap (.tup ks) b' := ⟨nestedIs_of I (keyIs_of rx ek) rfl, hd⟩
  have g := rows.get (k := .tup ks)
  refine wpAny_notIn_heap (roomN hu) hkey h2 (dictN_at I h1 rows.out.2.1) ⟨.bl _, H, I.tok _, rfl, ?_⟩
  have e : (atKey xs (.tup ks)).isSome = (getN kvs (.tup ks)).isSome := by
    cases e : getN kvs (.tup ks) with
    | none => rw [e] at g; rw [g]; rfl
    | some z => rw [e] at g; obtain ⟨_, _, _, e1, _⟩ := g; rw [e1]; rfl
  rw [e]
  exact k eh H (.bl _) (.bl _) .refl R (by simp [Rp]) m
/-- d[k] = v -/
def rSetN (X : Cx) : V → V → V → Hp → (Hp → Prop) → Prop := fun o i v H Q => ∃ p b xs ks, o = .ref p ∧ i = .ref b ∧ H p = some (dictN X.w p xs) ∧ (p == sysModules) = false ∧ xs.length < sizeLine ∧ (∀ x ∈ xs, KeyIs X.K H x.1 (.ref x.2.1) ∧ x.1.depth ≤ 8) ∧
  KeyIs X.K H (.tup ks) (.ref b) ∧ (NestedKey.tup ks).depth ≤ 8 ∧ ∀ u, RelV v u → Q (upd H p (dictN X.w p (storedH xs (.tup ks) b u)))
theorem storedH_le {xs : List (NestedKey × Addr × Value)} {k : NestedKey} {a : Addr} {u : Value} : (storedH xs k a u).length ≤ xs.length + 1 := by
  unfold storedH
  split <;> simp
theorem set_N {k : Nat} (hr : RoomG k X.A) : PSet X (rSetN X) := by
  intro pins s σ H o i v ov iv u Q I ro ri rv ⟨p, b, xs, ks, eo, ei, h1, h2, h3, h4, h5, h6, q⟩
  subst eo ei
  cases ro
  cases ri
  refine wpAny_setItem_heap (hsz := Nat.le_of_lt h3) (roomN hr.units) (k := NestedKey.tup ks) ⟨nestedIs_of I h5 rfl, h6⟩ (dictN_at I h1 h4) fun h' dd' hs => ?_
  obtain ⟨oq, _, _, hq, _⟩ := id dd'
  exact ⟨_, d_write I (by rw [h1]; exact True.intro) hs ⟨oq, hq⟩ (dictN_new dd'), q u rv⟩
theorem dictN_empty {h : Heap} {p : Addr} (e : ObjOk X.prog X.w H h p (.dK [])) (H' : Hp) : (p == sysModules) = false ∧ ObjOk X.prog X.w H' h p (dictN X.w p []) := by
  obtain ⟨_, z, vs, r, ob, es, ep, e1, e2, e3, _, e4, _⟩ := e
  cases r
  have e5 : es.toList = [] := by cases hq : es.toList with
    | nil => rfl
    | cons y ys => rw [hq] at e4; cases e4
  exact ⟨z, ⟨ob, es, ep, e1, e2, e3, by simpa using e5, by simp⟩, ⟨ob, e1⟩, fun g1 g2 ⟨o', es', ep', q1, q2⟩ st => ⟨o', es', ep', st o' q1, q2⟩⟩
end
section
variable {X : Cx} {E : XK} {e o c kx vx tg iter : Expr} {ma mb mv mk : ME} {pos pos' : Pos}
def sDPutN (md mk mv : ME) : MS := fun xc d es eh => mv xc es eh fun v eh1 => md xc es eh1 fun x eh2 => mk xc es eh2 fun y eh3 => ∃ p kvs ks, x = .ref p ∧ eh3 p = some (.dN kvs) ∧ keyN y = some (.tup ks) ∧ (NestedKey.tup ks).depth ≤ 8 ∧ kvs.length < sizeLine ∧
  d.nx es (eupd eh3 p (some (.dN (putN kvs (.tup ks) v))))
theorem rs_dputN {k : Nat} (hr : RoomG k X.A) (ho : PE X o (U X.K X.mw E ma)) (hi : PE X c (U X.K X.mw E mb)) (hv : PE X e (U X.K X.mw E mv)) (hs : swapsWithSole [.Subscript o c pos'] e pos.line X.env = pure false := by rfl) (hw : swappedStores [.Subscript o c pos'] e X.env = pure none := by rfl)
    (h1 : (assignEach [.Subscript o c pos'] X.env).map (·.2) = [assign (.Subscript o c pos') X.env] := by rfl)
    (has : ∀ v, assign (.Subscript o c pos') X.env v = (do
      let ov ← holding [v] (eval o X.env)
      let iv ← holding [v, ov] (eval c X.env)
      standAt pos'
      holding [v, ov, iv] (setItem ov iv v)
      release [v, ov, iv] []) := by intro _; rfl) :
    PS X (.Assign [.Subscript o c pos'] e pos) (US X.K X.mw E (sDPutN ma mb mv)) :=
  PS.imp (ps_asg hv (pg_sub ho hi (set_N hr) has) hs hw h1) fun D σ H ⟨Hd, es, eh, xc, d, R, xo, m, k1, k2, k3, k4⟩ => ⟨Hd, es, eh, xc, _, R, xo, m, fun eh1 H1 v v1 s1 R1 r1 m1 => ⟨Hd, es, eh1, xc, _, R.step s1 R1, xo.step s1, m1, fun eh2 H2 x x2 s2 R2 r2 m2 =>
    ⟨Hd, es, eh2, xc, _, (R.step s1 R1).step s2 R2, (xo.step s1).step s2, m2, fun eh3 H3 y y3 s3 R3 r3 ⟨p, kvs, ks, e1, e2, e3, hd, hl, m3⟩ => by
      subst e1
      cases r2
      obtain ⟨xs, q1, q2, q3, rows⟩ := R3.dN e2
      obtain ⟨b, rfl⟩ := ref_of_tup r3 e3
      refine ⟨p, b, xs, ks, rfl, rfl, q1, q2, by rw [← rows.length]; exact hl, rows.out.2.1, keyIs_of r3 e3, hd, fun u ru => ?_⟩
      have st : Step eh3 H3 (eupd eh3 p (some (.dN (putN kvs (.tup ks) v)))) (upd H3 p (dictN X.w p (storedH xs (.tup ks) b u))) := .write R3 e2
      have rows2 := (rows.put (keyIs_of r3 e3) hd ru (r1.step (s2.trans s3))).step st
      exact k1 _ _ _ _ (s1.trans (s2.trans (s3.trans st))) ((R.step (s1.trans (s2.trans s3)) R3).step st (.write R3 e2 (rpO_dN upd_same q2 (Nat.le_trans storedH_le (by rw [← rows.length]; exact hl)) rows2))) m3⟩⟩⟩
/-- {} that takes tuples as keys -/
def mDNewN : ME := fun _ _ eh q => ∀ p, eh p = none → q (.ref p) (eupd eh p (some (.dN [])))
theorem re_dnewN : PE X (.Dict [] [] pos) (U X.K X.mw E mDNewN) := by
  refine ⟨fun pins s σ H Q I ⟨Hd, es, eh, xc, q, R, xo, m, k⟩ => ?_⟩
  refine thn ((pe_dnewK (X := X) (pos := pos)).run pins s σ H (fun v H1 => ∃ p, v = .ref p ∧ H p = none ∧ H1 = upd H p (.dK [])) I fun p hp => ⟨p, rfl, hp, rfl⟩) fun v s1 ⟨x', H1, I1, rv, p, e1, hp, e2⟩ => ?_
  subst e1 e2
  cases rv
  have z := dictN_empty (X := X) (H := upd H p (.dK [])) (I1.hok p _ upd_same) (upd (upd H p (.dK [])) p (dictN X.w p []))
  obtain ⟨oq, hq⟩ := z.2.2.1
  have I2 : Inv X pins σ (upd H p (dictN X.w p [])) s1 := by
    have w := d_write (t' := s1.toks) (h' := s1.heap) I1 (a := p) (ob := dictN X.w p []) (by rw [upd_same]; exact True.intro) (Heap.SameBut.refl _ _) ⟨oq, hq⟩ z.2
    rw [upd_upd] at w
    exact w
  have R0 : Rh X.K X.mw Hd (eupd eh p (some (.dN []))) (upd H p (dictN X.w p [])) := R.obj.new (eo := .dN []) hp (rpO_dN upd_same z.1 (Nat.zero_le _) rfl)
  exact ⟨.ref p, _, I2, rfl, k _ _ (.ref p) (.ref p) (.new hp) R0 rfl (m p (R.obj.fresh hp))⟩
end
end VM

/-! VMK4: list(d), sorted(d) of dicts with tuple keys; comprehensions that make them. -/
namespace VM
open PySem PySem.Spec PyProof.Rows L2
section
variable {X : Cx} {pins : List (Addr × Obj)} {σ : L2.St} {H : Hp} {s : Shared} {Hd : Addr → Prop} {eh : Eh}
/-- the keys as they come -/
theorem keys_come {xs : List (NestedKey × Addr × Value)} {es : Array DictEntry} {w : World} (he : es.toList = xs.map (fun x => (⟨x.1.hash w, .ref x.2.1, x.2.2⟩ : DictEntry))) {acc : List Value} (hl : acc.length = es.size)
    (h : ∀ (i : Nat) (v : Value), acc[i]? = some v → ∃ en : DictEntry, es[i]? = some en ∧ v = en.key) : acc = xs.map fun x => Value.ref x.2.1 := by
  have hz : es.size = xs.length := by rw [← Array.length_toList, he, List.length_map]
  refine List.ext_getElem? fun i => ?_
  rw [List.getElem?_map]
  cases e : acc[i]? with
  | none =>
    rw [List.getElem?_eq_none_iff, hl, hz] at e
    rw [List.getElem?_eq_none e]; rfl
  | some v =>
    obtain ⟨en, e1, e2⟩ := h i v e
    rw [← Array.getElem?_toList, he, List.getElem?_map] at e1
    cases e3 : xs[i]? with
    | none => rw [e3] at e1; cases e1
    | some x => rw [e3] at e1; rw [e2, ← Option.some.inj e1]; rfl
end
section
variable {prog : Program} {w : World} {A : Around} {E : Value → Shared → Prop} {s : Shared}
end
section
variable {X : Cx} {pins : List (Addr × Obj)} {σ : L2.St} {H : Hp} {s : Shared} {Hd : Addr → Prop} {eh : Eh}
end
end VM

/-! VMK5: {k: v for ..} with tuple keys. -/
namespace VM
open PySem PySem.Spec PyProof.Rows L2
section
variable {X : Cx} {pins : List (Addr × Obj)} {σ : L2.St} {H : Hp} {s : Shared}
end
/-! ### the shallow term -/
section
variable {X : Cx} {E : XK}
variable {kx vx tg iter : Expr} {ifs : List Expr} {scope : Scope} {own : List (Str × Nat)} {mk mv : ME} {mi : MI} {g : Tg} {tt : MT} {pos : Pos}
end
end VM

/-! VMK6: d.setdefault(k, v); min(d) of a dict with text keys (one of its keys). -/
namespace VM
open PySem PySem.Spec PyProof.Rows L2
section
variable {X : Cx} {E : XK} {o e f : Expr} {ma mb mc : ME} {apos cpos : Pos}
end
end VM

/-! VMK7: list * int where the list can be long; tuple + tuple, any of them empty. -/
namespace VM
open PySem PySem.Spec PyProof.Rows L2
section
variable {X : Cx}
end
end VM

/-! VMK8: dicts with tuple keys, frozen (EV.dn): walked; {k: v}; dict(zip(tuples, xs)). -/
namespace VM
open PySem PySem.Spec PyProof.Rows L2
/-! ### for k in d -/
def Itkn (w : World) (d : Addr) (o : Obj) (xs : List (NestedKey × Addr × Value)) : It :=
  ⟨fun i H => H d = some (.frz o (dictN w d xs)) ∧ i < xs.length, fun i H x H' => H' = H ∧ ∃ (k : NestedKey) (a : Addr) (u : Value), xs[i]? = some (k, a, u) ∧ x = V.ref a, fun i H => H d = some (.frz o (dictN w d xs)) ∧ xs.length ≤ i⟩
section
variable {X : Cx} {pins : List (Addr × Obj)} {σ : L2.St} {H : Hp} {s : Shared}
theorem frzN {d : Addr} {o : Obj} {xs : List (NestedKey × Addr × Value)} (I : Inv X pins σ H s) (h : H d = some (.frz o (dictN X.w d xs))) :
    s.heap.get? d = some o ∧ o.ExactDict ∧ ∃ (es : Array DictEntry) (ep : Nat), o.data = .dict es ep ∧ es.size = xs.length ∧ ∀ (i : Nat) (k : NestedKey) (a : Addr) (u : Value), xs[i]? = some (k, a, u) → ∃ en : DictEntry, es[i]? = some en ∧ en.key = .ref a ∧ en.val = u := by
  obtain ⟨hd, ⟨⟨o', es, ep, ho, hx, hdt, he, hn⟩, _⟩⟩ := (show ObjOk X.prog X.w H s.heap d (.frz o (dictN X.w d xs)) from I.hok d _ h)
  rw [hd] at ho
  cases ho
  refine ⟨hd, hx, es, ep, hdt, by rw [← Array.length_toList, he, List.length_map], fun i k a u hi => ?_⟩
  refine ⟨⟨k.hash X.w, .ref a, u⟩, ?_, rfl, rfl⟩
  rw [← Array.getElem?_toList, he, List.getElem?_map, hi]; rfl
end
theorem turn_keysN {P : Program} {w : World} {K : PySem.W.Frag} {tg : Expr} {d : Addr} {o : Obj} {es : Array DictEntry} {ep : Nat} {xs : List (NestedKey × Addr × Value)} (it : Addr) (hod : o.data = .dict es ep) : Turn P w K tg (Itkn w d o xs) [it] it (fun i h => h.IsKeyIter it d i xs.length ep) where
  mem := by simp
  obj := fun i h st b hb => by
    have e : b = it := by simpa using hb
    subst e
    obtain ⟨oi, e, c, dd⟩ := st
    exact ⟨oi, e, fun v z => by rw [dd] at z; cases z⟩
  keep := fun i h h' st k => st.at fun oi e => k it (by simp) oi e
  item := by
    intro X hP hw hK hc i pins s σ H E I hf st hg
    subst hP hw hK
    obtain ⟨hd, hi⟩ := hg
    obtain ⟨f0, f1, f2, f3, f4, f5⟩ := hf it (by simp)
    obtain ⟨hgd, hx, es', ep', hdt, hsz, ent⟩ := frzN I hd
    obtain ⟨rfl, rfl⟩ := dict_ep hod hdt
    obtain ⟨⟨k, a, u⟩, hkv⟩ : ∃ p, xs[i]? = some p := ⟨xs[i], List.getElem?_eq_getElem hi⟩
    obtain ⟨en, hen, hkey, _⟩ := ent i k a u hkv
    refine next_key_item st hgd hdt hsz hen fun h' st' sb => ?_
    have I1 : Inv X pins σ H { s with heap := h' } := I.turned (t' := s.toks) (fun b ob hb e => (sb.2 b hb).trans e) f0 f1 f3 f4 f5
    obtain ⟨oi, e, c, dd⟩ := id st'
    exact ⟨en.key, rfl, go_of (s := { s with heap := h' }) e c dd (by decide) ⟨.ref a, H, I1, hkey, ⟨rfl, k, a, u, hkv, rfl⟩, st', fun b hb => (hf b hb).1⟩⟩
  done := by
    intro X hP hw hK hc i pins s σ H E I hf st hg
    subst hP hw hK
    obtain ⟨hd, hi⟩ := hg
    obtain ⟨f0, f1, f2, f3, f4, f5⟩ := hf it (by simp)
    obtain ⟨hgd, hx, es', ep', hdt, hsz, ent⟩ := frzN I hd
    obtain ⟨rfl, rfl⟩ := dict_ep hod hdt
    exact next_key_end (I.ok.hd hc) st hgd hdt hsz hi fun h' eb => ⟨rfl, I.turned (t' := s.toks) (fun b ob hb e => eb b ob hb e) f0 f1 f3 f4 f5⟩
  self := fun A i s Q E st h => by
    refine wpAny_pyIter_slot st.typeIs F.slot_dict_keyiterator_iter (wpAny_call_entry F.slot_dict_keyiterator_iter st.typeIs F.entry_dict_keyiterator_iter ?_ (F.args_dict_keyiterator_iter_1 _))
    show wpAny _ _ (ret (.ref it)) _ _ s
    exact wpAny_pure ⟨_, rfl, "dict_keyiterator", _, st.typeIs, F.slot_dict_keyiterator_next.lookup, h⟩
def iKeysN (m : ME) : MI := fun xc es eh q => m xc es eh fun x eh1 => ∃ kvs, x = .dn kvs ∧ q (kvs.map fun p => evK p.1) (fun _ => True) eh1
section
variable {K : PySem.W.Frag} {mg : MW} {Hd : Addr → Prop} {eh0 : Eh} {H0 : Hp}
theorem jok_keysN {d : Addr} {o : Obj} {kvs : List (NestedKey × EV)} {xs : List (NestedKey × Addr × Value)} (e : H0 d = some (.frz o (dictN mg.w d xs))) (ek : kvs.map (·.1) = xs.map (·.1)) (hk : ∀ x ∈ xs, KeyIs K H0 x.1 (.ref x.2.1)) : JOk K mg Hd eh0 H0 (Itkn mg.w d o xs) (kvs.map fun p => evK p.1) (fun _ => True) where
  stop := fun i Hd' eh H hh s R o hi => ⟨s.frz _ _ _ e, by have := congrArg List.length ek; simp at this; rw [← this]; simpa using hi⟩
  go := fun i Hd' eh H hh s R o hi => ⟨s.frz _ _ _ e, by have := congrArg List.length ek; simp at this; rw [← this]; simpa using hi⟩
  yld := fun i Hd' eh H v H' hh s R o hi ⟨e, k, a, u, y, z⟩ => by
    subst e; subst z
    have h1 : (kvs.map (·.1))[i]? = some k := by rw [ek, List.getElem?_map, y]; rfl
    refine ⟨evK k, ?_, .refl, R, rp_evK ((hk _ (List.mem_of_getElem? y)).ext fun b ws q => SqT.stepW s q), fun _ _ z => z⟩
    rw [List.getElem?_map] at h1 ⊢
    cases e1 : kvs[i]? with
    | none => rw [e1] at h1; cases h1
    | some p => rw [e1] at h1; cases h1; rfl
end
theorem pi_keysN {X : Cx} {tg l : Expr} {tl : TE} (hl : PE X l tl) : PI X tg l fun σ H R => tl σ H fun x H1 => ∃ d o xs, x = .ref d ∧ (d == sysModules) = false ∧ H1 d = some (.frz o (dictN X.w d xs)) ∧ R (Itkn X.w d o xs) H1 := by
  refine ⟨fun pins s σ H R I h => ?_⟩
  refine thn (hl.run pins s σ H _ I h) fun v s1 ⟨x, H1, I1, r1, d, o, xs, ex, hs, hd, q⟩ => ?_
  subst ex
  cases r1
  obtain ⟨hgd, hx, es, ep, hdt, hsz, _⟩ := frzN I1 hd
  refine iter_keys hs hgd hx hdt (pi_one (tk := s1.toks) I1 _ (turn_keysN _ hdt) ⟨_, Heap.get?_push_size _ rfl, rfl, ?_⟩ q)
  rw [hsz] <;> rfl
section
variable {X : Cx} {E : XK} {tg e e2 : Expr} {ma mb mk mv : ME} {ta : MA} {pos p p2 pos2 : Pos}
theorem ri_keysN (h : PE X e (U X.K X.mw E ma)) : PI X tg e (UI X.K X.mw E (iKeysN ma)) :=
  PI.imp (pi_keysN h) fun σ H R ⟨Hd, es, eh, xc, q, Rl, xo, m, k⟩ => ⟨Hd, es, eh, xc, _, Rl, xo, m, fun eh1 H1 x v s1 R1 r1 ⟨kvs, ex, m1⟩ => by
    subst ex
    obtain ⟨a, o, xs, us, rfl, h1, ⟨z1, z2, z3, z4, z5⟩, r⟩ := r1
    exact ⟨a, o, xs, rfl, z1, h1, k eh1 H1 _ _ _ s1 R1 (jok_keysN h1 z3 fun x hx => (z4 x hx).1) m1⟩⟩
/-! ### {k: v} -/
def tDispN (X : Cx) (tk tv : TE) : TE := fun σ H Q => ∀ p, (p == sysModules) = false → H p = none → tk σ (upd H p (dictN X.w p [])) fun y H1 => tv σ H1 fun z H2 => ∃ b ks, y = .ref b ∧ H2 p = some (dictN X.w p []) ∧ KeyIs X.K H2 (.tup ks) (.ref b) ∧ (NestedKey.tup ks).depth ≤ 8 ∧
  ∀ u, RelV z u → Q (.ref p) (upd H2 p (dictN X.w p [(.tup ks, b, u)]))
theorem pe_dispN {kk : Nat} {k v : Expr} {tk tv : TE} (hr : RoomG kk X.A) (hk : PE X k tk) (hv : PE X v tv) : PE X (.Dict [some k] [v] pos) (tDispN X tk tv) := by
  refine ⟨fun pins s σ H Q I q => ?_⟩
  have hn := I.hok.fresh (Nat.le_refl s.heap.objs.size)
  have sD : (s.heap.objs.size == sysModules) = false := beq_false_of_ne (Nat.ne_of_gt I.big)
  have I1 := I.laid (a := s.heap.objs.size) (o := dictN X.w s.heap.objs.size []) (h' := s.heap.push { cls := .type "dict", data := .dict #[] }) (t' := s.toks) (fun _ _ q => Heap.get?_push_of_some _ q) (Nat.le_refl _) (dictN_new (Heap.DictOfH.new _))
  have hpl := pairTrees_length [some k] [v] X.env pos rfl rfl
  rw [arm_eval_Dict, zip_pairTrees [some k] [v] X.env pos rfl rfl, dictDisplay_pairs _ (fun e => by rw [e] at hpl; cases hpl) (by rw [hpl]; simp)]
  refine wpAny_bind (wpAny_standAt (wpAny_bind (PySem.wpAny_subDictH (knd := nestedKind X.prog X.w) (Q := fun d s' => wpAny (model X.prog X.w) X.A (pure (Value.ref d)) _ _ s') (roomN0 (X := X) hr.units) (by rw [hpl]; simp) ?_)))
  refine pairTrees_cons_walk (thn (hk.run pins _ σ _ _ I1 (q _ sD hn)) fun u s1 ⟨x, H1, I1', rx, q1⟩ => thn (hv.run pins s1 σ H1 _ I1' q1) fun w2 s2 ⟨y, H2, I2, ry, b, ks, ex, e, hkb, hd, q3⟩ => pairTrees_nil_walk ?_)
  subst ex
  cases rx
  refine ⟨[(.tup ks, b, w2)], ⟨rfl, rfl, ⟨nestedIs_of I2 hkb rfl, hd⟩, trivial⟩, dictN_at I2 e (by simp), fun h' tk dd hs => wpAny_pure ⟨.ref _, _, ?_, rfl, q3 w2 ry⟩⟩
  have dd : h'.DictOfH (nestedKind X.prog X.w) s.heap.objs.size [(.tup ks, b, w2)] := dd
  obtain ⟨oq, _, _, hq, _⟩ := id dd
  exact d_write I2 (by rw [e]; exact True.intro) hs ⟨oq, hq⟩ (dictN_new dd)
def mDispN (mk mv : ME) : ME := fun xc es eh q => ∀ p, eh p = none → mk xc es (eupd eh p (some (.dN []))) fun y eh1 => mv xc es eh1 fun z eh2 => ∃ ks, eh2 p = some (.dN []) ∧ keyN y = some (.tup ks) ∧ (NestedKey.tup ks).depth ≤ 8 ∧ q (.ref p) (eupd eh2 p (some (.dN [(.tup ks, z)])))
theorem re_dispN {kk : Nat} {k v : Expr} (hr : RoomG kk X.A) (hk : PE X k (U X.K X.mw E mk)) (hv : PE X v (U X.K X.mw E mv)) : PE X (.Dict [some k] [v] pos) (U X.K X.mw E (mDispN mk mv)) := by
  refine PE.imp (pe_dispN hr hk hv) fun σ H Q ⟨Hd, es, eh, xc, q, R, xo, m, kk⟩ p sp hp => ?_
  have R0 : Rh X.K X.mw Hd (eupd eh p (some (.dN []))) (upd H p (dictN X.w p [])) := R.obj.new (eo := .dN []) hp (rpO_dN upd_same sp (Nat.zero_le _) rfl)
  have s0 : Step eh H (eupd eh p (some (.dN []))) (upd H p (dictN X.w p [])) := .new hp
  refine ⟨Hd, es, _, xc, _, R.step s0 R0, xo.step s0, m p (R.obj.fresh hp), fun eh1 H1 y u s1 R1 r1 m1 => ⟨Hd, es, eh1, xc, _, (R.step s0 R0).step s1 R1, (xo.step s0).step s1, m1, fun eh2 H2 z w s2 R2 r2 ⟨ks, e1, e2, e3, m2⟩ => ?_⟩⟩
  obtain ⟨xs, h1, _, _, rows⟩ := R2.dN e1
  cases rows
  have r1' := r1.step s2
  obtain ⟨b, rfl⟩ := ref_of_tup r1' e2
  refine ⟨b, ks, rfl, h1, keyIs_of r1' e2, e3, fun u ru => ?_⟩
  have st : Step eh2 H2 (eupd eh2 p (some (.dN [(.tup ks, z)]))) (upd H2 p (dictN X.w p [(.tup ks, b, u)])) := .write R2 e1
  have rows2 : RowsN X.K X.mw Hd eh2 H2 [(.tup ks, z)] [(.tup ks, b, u)] := ⟨b, u, w, [], rfl, keyIs_of r1' e2, e3, ru, r2, rfl⟩
  exact kk _ _ (.ref p) (.ref p) (s0.trans (s1.trans (s2.trans st))) (.write R2 e1 (rpO_dN upd_same sp (by show 1 ≤ sizeLine; decide) (rows2.step st))) rfl m2
/-! ### dict(zip(tuples, xs)) -/
end
end VM

/-! VMK9: x or y, x and y as values, by truth. -/
namespace VM
open PySem PySem.Spec PyProof.Rows L2
section
variable {X : Cx} {E : XK} {a b : Expr} {ma mb : ME} {pos : Pos} {rest : List Expr}
end
end VM

/-! VMK10: zip of a list and a tuple, or a tuple and a list. -/
namespace VM
open PySem PySem.Spec PyProof.Rows L2
section
variable {X : Cx} {pins : List (Addr × Obj)} {σ : L2.St} {H : Hp} {s : Shared}
end
section
variable {K : PySem.W.Frag} {mg : MW} {Hd : Addr → Prop} {eh0 : Eh} {H0 : Hp}
end
section
variable {X : Cx} {E : XK} {tg e e2 : Expr} {pos p : Pos}
end
end VM

/-! VMK11: repr of frozen data with dicts in it; list + list to be written. -/
namespace VM
open PySem PySem.Spec PyProof.Rows L2
section
variable {X : Cx} {pins : List (Addr × Obj)} {σ : L2.St} {H : Hp} {s : Shared} {Hd : Addr → Prop} {eh : Eh}
end
section
variable {X : Cx}
/-! ### xs.reverse(), d.pop(k) -/
variable {E : XK} {o e : Expr} {ma mb : ME} {apos cpos : Pos}
end
/-! ### what an explicit list in a slot holds is frozen -/
def sFzI (i n : Nat) (ms : MS) : MS := fun xc d es eh => ∃ (p : Addr) (xs : List EV) (S : Addr → Bool), es[i]? = some (some (.ref p)) ∧ eh p = some (.lst xs) ∧ S p = false ∧ ms xc d es (eupd (drE S eh) p (some (.lst (xs.map (fz S eh n)))))
theorem rs_fzI {X : Cx} {E : XK} {ss : List Stmt} {i n : Nat} {ms : MS} (h : PSs X ss (US X.K X.mw E ms)) : PSs X ss (US X.K X.mw E (sFzI i n ms)) := by
  refine ⟨fun pins s σ H D I w => ?_⟩
  obtain ⟨Hd, es, eh, xc, d, R, xo, ⟨p, xs, S, ei, ep, hs, m⟩, k1, k2, k3, k4⟩ := w
  obtain ⟨H', I', st, R', gb, f⟩ := ghostM I R.obj S (xs.flatMap (dcs S eh n)) fun c hc => by
    obtain ⟨y, _, hy⟩ := List.mem_flatMap.mp hc
    exact dcs_mem n y c hy
  obtain ⟨vs, hp, rv⟩ := R.obj.ob p _ ep
  have ep' : drE S eh p = some (.lst xs) := by unfold drE; rw [hs]; exact ep
  obtain ⟨vs', hp', _⟩ := R'.ob p _ ep'
  have rv' : RpL X.K X.mw Hd (drE S eh) H' (xs.map (fz S eh n)) vs := rv.map fun y hy v => f n y v fun c hc => List.mem_flatMap.mpr ⟨y, hy, hc⟩
  have hvs : H' p = some (.lst vs) := (gb p hs).trans hp
  have st2 : Step (drE S eh) H' (eupd (drE S eh) p (some (.lst (xs.map (fz S eh n))))) H' := ⟨fun a o ho hn _ => ⟨ho, by
    rw [eupd_ne fun z => by rw [z, ep'] at hn; cases hn]; exact hn⟩, fun _ _ h => h, fun _ _ _ h => h⟩
  have R2 : Rh X.K X.mw Hd (eupd (drE S eh) p (some (.lst (xs.map (fz S eh n))))) H' := ⟨R'.tb, fun a o e => by
    by_cases ha : a = p
    · subst ha; rw [eupd_same] at e; cases e; exact ⟨vs, hvs, rv'.step st2⟩
    · rw [eupd_ne ha] at e; exact (R'.ob a o e).step' st2 rfl, fun a z => by
    obtain ⟨q, n'⟩ := R'.hd a z
    refine ⟨q, ?_⟩
    by_cases ha : a = p
    · subst ha; rw [ep'] at n'; cases n'
    · rw [eupd_ne ha]; exact n'⟩
  have stt := st.trans st2
  exact h.run pins s σ H' D I' ⟨Hd, _, _, xc, d, R.step stt R2, xo.step stt, m, fun es2 eh2 σ2 H2 s3 => k1 es2 eh2 σ2 H2 (stt.trans s3), fun eh2 H2 x v s3 => k2 eh2 H2 x v (stt.trans s3), fun es2 eh2 σ2 H2 s3 => k3 es2 eh2 σ2 H2 (stt.trans s3), fun es2 eh2 σ2 H2 s3 => k4 es2 eh2 σ2 H2 (stt.trans s3)⟩
end VM

/-! VMK12: sorted(set(xs)) of texts. -/
namespace VM
open PySem PySem.Spec PyProof.Rows L2 PySem.Froz
/-- what set() makes -/
def vacant (led : Bool) : Obj := { cls := .type "set", dict := none, data := .set #[] 0 (.fresh 0 0 led) }
/-- at a stands a set of the texts l that can be gone through -/
def Txs (P : Program) (w : World) (h : Heap) (a : Addr) (l : List Str) : Prop :=
  l.Nodup ∧ ∃ D : SD, h.get? a = some (sObj "set" D) ∧ TxOk P w D l ∧ Ris D.2.2.place.toList ∧ (w.params.followText "set-order" = true ∨ D.2.2.led = true)
theorem Txs.keep {P : Program} {w : World} {h h' : Heap} {a : Addr} {l : List Str} (T : Txs P w h a l) (k : ∀ o, h.get? a = some o → h'.get? a = some o) : Txs P w h' a l := by
  obtain ⟨n, D, e, z⟩ := T
  exact ⟨n, D, k _ e, z⟩
section
variable {P : Program} {w : World} {s : Shared} {A : Around} {E : Value → Shared → Prop}
end
section
variable {X : Cx} {E : XK} {e : Expr} {me : ME} {p p2 pos pos2 : Pos}
end
end VM

/-! VMK13: xs != [] of a list of anything; text > text. -/
namespace VM
open PySem PySem.Spec PyProof.Rows L2 PySem.SeqAt
section
variable {X : Cx}
end
end VM

/-! VMK14: name += e of ints. -/
namespace VM
open PySem PySem.Spec PyProof.Rows L2
section
variable {X : Cx} {E : XK} {e : Expr} {ma : ME} {pos : Pos}
end
end VM

/-! VMK15: x > y of data that are alike. -/
namespace VM
open PySem PySem.Spec PyProof.Rows L2
section
variable {X : Cx}
end
end VM

/-! VMK16: sorted(d, key=lambda x: (d[x], x[0], x[1])) of a dict with tuple keys (a text, a tuple of ints). -/
namespace VM
open PySem PySem.Spec PyProof.Rows L2
section
variable {prog : Program} {w : World} {A : Around} {E : Value → Shared → Prop} {s : Shared}
open PySem.W in
/-- sorted(xs, key=f) of what is collected -/
theorem src_sorted_key {β : Type} {vs : List Value} {bs : List β} {k : β → PyData} {R : Value → β → Prop} {r f : Addr} {Q : Value → Shared → Prop}
    (col : ∀ (R' : List Value → Shared → Prop), (∀ (h' : Heap) (tk : Nat), (∀ b o, s.heap.get? b = some o → h'.get? b = some o) → R' vs { s with heap := h', toks := tk }) → wpAny (model prog w) A.in1 (collect (.ref r)) R' (fun x s' => E x s') s)
    (e : EachIs R vs bs) (hal : AllAlike (bs.map k)) (hk : Sortable (bs.map k)) (hL : bs.length ≤ sizeLine) (hu : ∀ x, x ∈ bs → A.units + 2 + (k x).depth < cLine)
    (turn : ∀ (v : Value) (x : β), R v x → x ∈ bs → ∀ (h : Heap) (tk : Nat), (∀ b o, s.heap.get? b = some o → h.get? b = some o) →
      wpAny (model prog w) A.in1.in1 (call (.ref f) [v]) (KeyPure (k x) { s with heap := h, toks := tk }) (fun _ _ => False) { s with heap := h, toks := tk })
    (q : ∀ (out : List Value) (h' h2 : Heap) (tk : Nat), (∀ b o, s.heap.get? b = some o → h'.get? b = some o) → (∀ b o, h'.get? b = some o → h2.get? b = some o) → out.length = bs.length → EachIs R out (bs.mergeSort (dataLe false k)) → (∃ c, h2.get? h'.objs.size = some (seqObj "list" out.toArray c)) →
      Q (.ref h'.objs.size) { s with heap := h2, toks := tk }) :
    wpAny (model prog w) A (call (.builtin "sorted") [.ref r] [(Str.ofString "key", .ref f)]) Q E s := by
  have hz : vs.length ≤ sizeLine := by rw [e.length]; exact hL
  refine call_function_entry_kw kind_sorted plain_sorted entry_sorted (ksk_s1 _ _) ?_
  unfold Builtin.«sorted»
  refine wpAny_bind (m := checkCount "sorted" 1 1 _) (wpAny_pure (wpAny_bind (col _ fun h' tk kp => wpAny_bind (wpAny_newList ?_ hz))))
  have hoL : (h'.push (seqObj "list" vs.toArray 0)).get? h'.objs.size = some (seqObj "list" vs.toArray 0) := Heap.get?_push_size _ rfl
  show wpAny _ _ _ _ _ { s with heap := h'.push (seqObj "list" vs.toArray 0), toks := tk }
  refine wpAny_bind (wpAny_holding (wpAny_call_entry_kw slot_list_sort ⟨_, hoL, rfl⟩ entry_list_sort ?_ (ksk_l1 _ _)))
  show wpAny (model prog w) A.in1.in1 (Builtin.«list.sort» ⟨[.ref h'.objs.size], [(Str.ofString "key", .ref f)]⟩) _ _ _
  rw [ksk_t1]
  have keep : ∀ {g : Heap}, KeepsBut h'.objs.size (h'.push (seqObj "list" vs.toArray 0)) g → ∀ b o, h'.get? b = some o → g.get? b = some o := fun {g} kp2 b o eo =>
    kp2 b o (Nat.ne_of_lt (Heap.lt_size eo)) (Heap.get?_push_of_some _ eo)
  refine keyH_tree (kz := bs.map k) (s := { s with heap := h'.push (seqObj "list" vs.toArray 0), toks := tk }) hoL (by rw [List.length_map]; exact e.length.symm) hz hal hk (bound_map (A := A.in1.in1) hu)
    (keyH_turns (s := { s with heap := h'.push (seqObj "list" vs.toArray 0), toks := tk }) e fun v x hR hx h tk' kp' => turn v x hR hx h tk' fun b o eo => keep kp' b o (kp b o eo)) fun h2 tk2 out c kp2 hD ko => ⟨_, rfl, wpAny_pure ⟨_, rfl, ?_⟩⟩
  exact q out h' h2 tk2 kp (keep kp2) ((ko.length (by rw [List.length_map]; exact e.length.symm)).trans e.length) (keyedOut_each k ko e) ⟨c, hD⟩
end
section
variable {X : Cx} {pins : List (Addr × Obj)} {σ : L2.St} {H : Hp} {s : Shared}
theorem ints_reads (I : Inv X pins σ H s) : ∀ {pt : List Int} {vs : List V} {us : List Value}, KeysAre X.K H (pt.map .num) vs → Vals vs us → ReadsAll s.heap us (pt.map .int) []
  | [], _, _, h, r => by cases h; cases r; exact .nil
  | i :: pt, _, _, ⟨v, w, e, h, t⟩, r => by
    subst e
    cases h
    cases r with
    | cons r1 r2 =>
      obtain ⟨tk, rfl⟩ := r1
      exact .cons (.int i tk) (ints_reads I t r2)
/-- a cell: a text, and a tuple of ints -/
theorem cell_parts (I : Inv X pins σ H s) {nm : Str} {pt : List Int} {t : Addr} (h : KeyIs X.K H (.tup [.text nm, .tup (pt.map .num)]) (.ref t)) : ∃ tz u1, IsTup s.heap t #[.str nm tz, u1] ∧ Reads s.heap u1 (.tuple (pt.map .int)) [] := by
  obtain ⟨a, vs, e, hs, v0, w0, rfl, h0, v1, w1, rfl, h1, rfl⟩ := h
  cases e
  cases h0
  obtain ⟨b, ws, rfl, hs1, hn⟩ := h1
  obtain ⟨its, rv, tup, _⟩ := I.tuple hs
  cases rv with
  | cons r0 rr =>
    cases rr with
    | cons r1 r2 =>
      cases r2
      obtain ⟨tz, rfl⟩ := r0
      cases r1
      obtain ⟨its1, rv1, ⟨o, e1, e2, n, e3⟩, _⟩ := I.tuple hs1
      refine ⟨tz, _, by simpa using tup, .tuple e1 e2 e3 ?_⟩
      simpa using ints_reads I hn rv1
abbrev lamLB (dn x : Str) (j0 j1 kk : Nat) (p1 p2 p3 p4 p5 p6 p7 p8 p9 pp : Pos) : Expr :=
  .Tuple [.Subscript (.Name dn p1) (.Name x p2) p3, .Subscript (.Name x p4) (.Constant (.int 0) j0 p5) p6, .Subscript (.Name x p7) (.Constant (.int 1) j1 p8) p9] kk pp
/-- the lambda's body -/
theorem lamL_body (I : Inv X pins σ H s) {en : Env} {x dn : Str} {j0 j1 kk : Nat} {p1 p2 p3 p4 p5 p6 p7 p8 p9 pp : Pos}
    (hkind : en.scope.kind = .function) (hx : en.kindOf x = some .local) (hdb : (x == ("__debug__" : Str)) = false) (hfn : en.kindOf dn = some .free) (hdd : (dn == ("__debug__" : Str)) = false) (hdc : (dn == ("__classdict__" : Str)) = false)
    {cc p t : Addr} {m : Str → Option Value} (hns : s.heap.Ns en.locals m) (hm : m x = some (.ref t)) (hcc : en.cells.lookup dn = some cc) (hcv : s.heap.IsCell cc (some (.ref p))) {xs : List (NestedKey × Addr × Value)} (h1 : H p = some (dictN X.w p xs)) (hks : ∀ x ∈ xs, KeyIs X.K H x.1 (.ref x.2.1) ∧ x.1.depth ≤ 8)
    {nm : Str} {pt : List Int} (hkey : KeyIs X.K H (.tup [.text nm, .tup (pt.map .num)]) (.ref t)) (hdep : (NestedKey.tup [.text nm, .tup (pt.map .num)]).depth ≤ 8) {a' : Addr} {n : Int} {tk' : Tok} (hat : atKey xs (.tup [.text nm, .tup (pt.map .num)]) = some (a', .int n tk'))
    {A : Around} (hU : A.units + 64 < cLine) {E : Value → Shared → Prop} :
    wpAny (model X.prog X.w) A (eval (lamLB dn x j0 j1 kk p1 p2 p3 p4 p5 p6 p7 p8 p9 pp) en) (PySem.W.KeyPure (.tuple [.int n, .str nm, .tuple (pt.map .int)]) s) E s := by
  obtain ⟨tz, u1, tup, rd⟩ := cell_parts I hkey
  have dd : s.heap.DictOfH (nestedKind X.prog X.w) p xs := dictN_at I h1 hks
  have nk : (nestedKind X.prog X.w).is s.heap (.tup [.text nm, .tup (pt.map .num)]) t := ⟨nestedIs_of I hkey rfl, hdep⟩
  have tI := dd.typeIs
  refine Tuple_ ?_
  refine Calls.spliced_cons (Subscript_ (wpAny_Name (wpAny_loadName_free (v := .ref p) hkind hfn hcc hcv ?_ hdc) hdd))
  refine wpAny_Name (wpAny_loadName_local (v := .ref t) hkind hx hns hm ?_) hdb
  have step2 : ∀ tk : Nat, wpAny (model X.prog X.w) A (spliced [(false, eval (.Subscript (.Name x p4) (.Constant (.int 0) j0 p5) p6) en), (false, eval (.Subscript (.Name x p7) (.Constant (.int 1) j1 p8) p9) en)])
      (fun vs s₂ => wpAny (model X.prog X.w) A (newTuple (.int n tk' :: vs)) (PySem.W.KeyPure (.tuple [.int n, .str nm, .tuple (pt.map .int)]) s) E s₂) E { s with toks := tk } := fun tk => by
    refine Calls.spliced_cons (Subscript_ (wpAny_Name (wpAny_loadName_local (v := .ref t) hkind hx hns hm ?_) hdb))
    refine wpAny_Constant_int ?_
    refine subscriptTail_builtinR (x := Value.str nm tz) tup.typeIs slot_tuple_getitem.lookup
      (getItem_tuple (j := 0) (Q := fun r s' => r = Value.str nm tz ∧ _) tup (by omega) (by omega) (by simp [seqIndex?]) (by simp) ⟨rfl, ?_⟩) (by intros; rfl)
    refine Calls.spliced_cons (Subscript_ (wpAny_Name (wpAny_loadName_local (v := .ref t) hkind hx hns hm ?_) hdb))
    refine wpAny_Constant_int ?_
    refine subscriptTail_builtinR (x := u1) tup.typeIs slot_tuple_getitem.lookup
      (getItem_tuple (j := 1) (Q := fun r s' => r = u1 ∧ _) tup (by omega) (by omega) (by simp [seqIndex?]) (by simp) ⟨rfl, ?_⟩) (by intros; rfl)
    refine Calls.spliced_nil ?_
    refine wpAny_newTuple ?_ (by show 3 ≤ sizeLine; decide)
    refine ⟨_, _, rfl, fun b o e => Heap.get?_push_of_some _ e, ?_⟩
    exact .tuple (as := []) (Heap.get?_push_size _ rfl) rfl rfl (.cons (.int n tk') (.cons (.str nm tz) (.cons (PyProof.Rows.Reads.keeps (fun b o e => Heap.get?_push_of_some _ e) rd) .nil)))
  unfold subscriptTail
  refine wpAny_bind ?_
  rw [getitemInPython_of_ne tI.not_modules]
  refine wpAny_bind (wpAny_specialOf tI PySem.F.slot_dict_getitem.lookup ?_)
  have fin : wpAny (model X.prog X.w) A (subscripted (.Name x p2) false (.ref p) (.ref t)) (fun r s₃ => wpAny (model X.prog X.w) A (letTemporaryGo (.Name dn p1) (.ref p) r >>= fun _ => pure r) (fun v s₁ => wpAny (model X.prog X.w) A (spliced [(false, eval (.Subscript (.Name x p4) (.Constant (.int 0) j0 p5) p6) en), (false, eval (.Subscript (.Name x p7) (.Constant (.int 1) j1 p8) p9) en)])
      (fun vs s₂ => wpAny (model X.prog X.w) A (newTuple (v :: vs)) (PySem.W.KeyPure (.tuple [.int n, .str nm, .tuple (pt.map .int)]) s) E s₂) E s₁) E s₃) E s := by
    rw [show subscripted (.Name x p2) false (.ref p) (.ref t) = operate [.ref p, .ref t] (getItem (.ref p) (.ref t)) by with_unfolding_all rfl]
    exact wpAny_operating (wpAny_getItem_heap (roomN hU) nk dd hat (wpAny_bind (wpAny_letTemporaryGo (wpAny_pure (step2 _)))))
  first
    | exact wpAny_pure (wpAny_bind fin)
    | exact wpAny_bind (wpAny_pure (wpAny_bind fin))
    | exact wpAny_bind fin
/-- what a call of the lambda gives -/
theorem lamL_call (I : Inv X pins σ H s) {f c' : Addr} {q : Str} {params : Arguments} {scope : Scope} {cl : List (Str × Addr)} {pm ctv : Value} {x dn : Str} {j0 j1 kk : Nat} {p1 p2 p3 p4 p5 p6 p7 p8 p9 pp : Pos}
    (hf : s.heap.get? f = some (PySem.W.kla_obj "<lambda>" q params (lamLB dn x j0 j1 kk p1 p2 p3 p4 p5 p6 p7 p8 p9 pp) scope cl pm c' ctv)) (hc : H c' = some (LamX.CodeO c' q))
    (hkind : scope.kind = .function) (hco : scope.isCoroutine = false) (hgen : scope.isGenerator = false) (hcell : ∀ y ∈ scope.names, y.2 ≠ .cell) (hx : scope.names.lookup x = some .local) (hdb : (x == ("__debug__" : Str)) = false)
    (hfn : scope.names.lookup dn = some .free) (hdd : (dn == ("__debug__" : Str)) = false) (hdc : (dn == ("__classdict__" : Str)) = false)
    (hbind : ∀ (v : Value), bindArgs (PySem.W.kla_fn "<lambda>" q params (lamLB dn x j0 j1 kk p1 p2 p3 p4 p5 p6 p7 p8 p9 pp) scope cl pm (.ref c') ctv) ⟨[v], []⟩ = pure [(x, v)])
    {cc p : Addr} (hcc : cl.lookup dn = some cc) (hcv : s.heap.IsCell cc (some (.ref p))) {xs : List (NestedKey × Addr × Value)} (h1 : H p = some (dictN X.w p xs)) (hks : ∀ x ∈ xs, KeyIs X.K H x.1 (.ref x.2.1) ∧ x.1.depth ≤ 8)
    {t : Addr} {nm : Str} {pt : List Int} (hkey : KeyIs X.K H (.tup [.text nm, .tup (pt.map .num)]) (.ref t)) (hdep : (NestedKey.tup [.text nm, .tup (pt.map .num)]).depth ≤ 8) {a' : Addr} {n : Int} {tk' : Tok} (hat : atKey xs (.tup [.text nm, .tup (pt.map .num)]) = some (a', .int n tk'))
    {A : Around} (hA : A.depth < recursionLimit) (hU : A.units + 70 < cLine) {h : Heap} {tk : Nat} (hk : ∀ b o, s.heap.get? b = some o → h.get? b = some o) :
    wpAny (model X.prog X.w) A (call (.ref f) [.ref t]) (PySem.W.KeyPure (.tuple [.int n, .str nm, .tuple (pt.map .int)]) { s with heap := h, toks := tk }) (fun _ _ => False) { s with heap := h, toks := tk } := by
  have hrec : h.CodeRec (.ref c') q := by
    obtain ⟨⟨oc, vs, tq, e1, e2, e3⟩, _⟩ := I.hok c' _ hc
    exact ⟨c', oc, vs, tq, rfl, hk _ _ e1, e2, e3⟩
  refine wpAny_call ?_
  refine PySem.W.kla_callFunE hA (hk _ _ hf) rfl hco hgen rfl hrec ?_
  rw [hbind]
  refine wpAny_pure (wpAny_newFunctionEnv hcell (fun y hy => by simp at hy; subst hy; exact hx) (fun h₁ hns hsb => ⟨(I.nolimit.keeps hk).fresh _ hsb, ?_⟩) hkind)
  have kp : ∀ b o, h.get? b = some o → h₁.get? b = some o := fun b o e => hsb.extBut b o (Nat.ne_of_lt (Heap.lt_size e)) (Heap.get?_push_of_some _ e)
  have J : ∀ tk : Nat, Inv X pins σ H { s with heap := h₁, toks := tk } := fun tk => I.kept fun b o e => kp _ _ (hk _ _ e)
  have hcv1 : h₁.IsCell cc (some (.ref p)) := by
    obtain ⟨o, ho, hd⟩ := hcv
    exact ⟨o, kp _ _ (hk _ _ ho), hd⟩
  refine PySem.W.kla_codeExpr ?_
  refine wpAny_mono (lamL_body (J _) (by exact hkind) (by exact hx) hdb (by exact hfn) hdd hdc (by exact hns) (by simp) (by exact hcc) hcv1 h1 hks hkey hdep hat (by show A.units + 3 + 64 < cLine; omega)) (fun v s' hq => ?_) fun e s' hq => hq
  obtain ⟨g, tk2, rfl, hg, hr⟩ := hq
  exact ⟨g, tk2, rfl, fun b o e => hg b o (kp b o e), hr⟩
end
/-! ### sorted by (d[x], x[0], x[1]) -/
/-- a cell with its number -/
abbrev TL := Str × List Int × Int
abbrev kN (r : TL) : NestedKey := .tup [.text r.1, .tup (r.2.1.map .num)]
abbrev rwL (r : TL) : NestedKey × EV := (kN r, .int r.2.2)
abbrev kLD (r : TL) : PyData := .tuple [.int r.2.2, .str r.1, .tuple (r.2.1.map .int)]
def sortL (L : List TL) : List TL := L.mergeSort (W.dataLe false kLD)
theorem kLD_depth (r : TL) : (kLD r).depth ≤ 8 := by
  have : ∀ l : List Int, PyData.depthAll (l.map .int) ≤ 1 := fun l => by
    induction l with
    | nil => simp [PyData.depthAll]
    | cons i l ih => simp only [List.map_cons, PyData.depthAll, PyData.depth]; omega
  have := this r.2.1
  simp only [kLD, PyData.depth, PyData.depthAll]
  omega
section
variable {K : PySem.W.Frag} {mg : MW} {Hd : Addr → Prop} {eh : Eh} {H : Hp}
def RL (K : PySem.W.Frag) (H : Hp) (u : Value) (b : V × TL) : Prop := ∃ a, u = .ref a ∧ b.1 = V.ref a ∧ KeyIs K H (kN b.2) (.ref a) ∧ (kN b.2).depth ≤ 8
theorem rowsL : ∀ {L : List TL} {xs : List (NestedKey × Addr × Value)}, RowsN K mg Hd eh H (L.map rwL) xs → W.EachIs (RL K H) (xs.map fun x => Value.ref x.2.1) ((xs.map fun x => V.ref x.2.1).zip L) ∧ xs.length = L.length
  | [], _, h => by cases h; exact ⟨.nil, rfl⟩
  | r :: L, _, ⟨a, u, v, xs, e, h1, h2, h3, h4, t⟩ => by
    subst e
    obtain ⟨i1, i2⟩ := rowsL t
    exact ⟨.cons ⟨a, rfl, rfl, h1, h2⟩ i1, by simp [i2]⟩
theorem each_valsL : ∀ {us : List Value} {bs : List (V × TL)}, W.EachIs (RL K H) us bs → Vals (bs.map (·.1)) us
  | _, _, .nil => .nil
  | _, _, .cons r t => by
    obtain ⟨a, rfl, e, _⟩ := r
    exact .cons (by show L2.RelV (Prod.fst _) _; rw [e]; rfl) (each_valsL t)
end
theorem AllAlike_kLD (bs : List (V × TL)) : PySem.W.AllAlike (bs.map fun b => kLD b.2) := PySem.W.AllAlike.of fun b b' => by
  simp only [kLD, PySem.W.alike, PySem.W.alikeAll, PySem.W.alike_ints, Bool.and_self]
theorem Sortable_kLD (bs : List (V × TL)) : PySem.W.Sortable (bs.map fun b => kLD b.2) := PySem.W.Sortable.tuples fun b => ⟨_, _, rfl⟩
section
variable {X : Cx} {E : XK} {e : Expr} {ma : ME}
end
end VM

/-! VMK17: list(range(n)) to be written. -/
namespace VM
open PySem PySem.Spec PyProof.Rows L2 PySem.Froz
section
variable {X : Cx} {E : XK} {ma : ME} {p pos : Pos}
end
section
variable {X : Cx} {E : XK} {e : Expr} {me : ME} {p p2 pos pos2 : Pos}
end
end VM

/-! VMK18: zip of three tuples. -/
namespace VM
open PySem PySem.Spec PyProof.Rows L2
section
variable {K : PySem.W.Frag} {mg : MW} {Hd : Addr → Prop} {eh0 : Eh} {H0 : Hp}
end
section
variable {X : Cx} {E : XK} {tg e e2 e3 : Expr} {pos p : Pos}
end
end VM

/-! VMK19: list(text) to be written. -/
namespace VM
open PySem PySem.Spec PyProof.Rows L2
section
variable {X : Cx} {E : XK}
end
end VM

/-! VMK20: d[k], t = a pair; d.clear(). -/
namespace VM
open PySem PySem.Spec PyProof.Rows L2
section
variable {X : Cx} {E : XK} {o c e tg : Expr} {ma mb mv : ME} {t : Tg} {pos p1 pt : Pos} {kt : Nat}
end
/-! ### d.clear() -/
section
variable {X : Cx}
end
end VM

/-! VMK21: a dict or None compared with the same; a list [dict, None, dict] compared with an equal one. -/
namespace VM
open PySem PySem.Spec PyProof.Rows L2
section
variable {X : Cx}
end
end VM

/-! VMK22: zip of two texts. -/
namespace VM
open PySem PySem.Spec PyProof.Rows L2
section
variable {K : PySem.W.Frag} {mg : MW} {Hd : Addr → Prop} {eh0 : Eh} {H0 : Hp}
end
section
variable {X : Cx} {E : XK} {tg e e2 : Expr} {pos p : Pos}
end
end VM

/-! VMK23: sorted(set(xs)), xs a list of tuples (of tuples) of ints, texts and None. -/
namespace VM
open PySem PySem.Spec PyProof.Rows L2 PySem.Froz
/-- a tuple that is a key -/
structure KAt (h : Heap) (p : Addr × NestedKey) : Prop where
  is : NestedIs h p.2 (.ref p.1)
  dp : p.2.depth ≤ 8
abbrev hkN (w : World) (p : Addr × NestedKey) : Int := p.2.hash w
abbrev rowN (w : World) (p : Addr × NestedKey) : Int × Value := (hkN w p, .ref p.1)
theorem KAt.keep {h h' : Heap} {p : Addr × NestedKey} (x : KAt h p) (k : ∀ c o, h.get? c = some o → h'.get? c = some o) : KAt h' p :=
  ⟨NestedIs.at (fun a o vs n e _ => k a o e) _ _ x.is, x.dp⟩
/-- what is written at a set leaves tuples alone -/
theorem KAt.but {h h' : Heap} {p : Addr × NestedKey} {a : Addr} {D : SD} (x : KAt h p) (e : h.get? a = some (sObj "set" D)) (k : ∀ c, c ≠ a → h'.get? c = h.get? c) : KAt h' p :=
  ⟨NestedIs.at (fun b o vs n eb ed => (k b fun z => by
    subst z
    rw [e] at eb
    cases eb
    exact nomatch (show PySem.Data.set D.1 D.2.1 D.2.2 = PySem.Data.seq vs n from ed)).trans eb) _ _ x.is, x.dp⟩
/-- the rows and the table that tell the keys -/
structure TellN (w : World) (D : SD) (L : List (Addr × NestedKey)) : Prop where
  rows : D.1.toList = L.map (rowN w)
  tab : TabOk D.2.2 (L.map (hkN w))
  sp : L.length * 5 < D.2.2.mask * 3
  ld : w.params.followText "set-order" = true ∨ D.2.2.led = true
  nd : (L.map (·.2)).Nodup
theorem TellN.sz {w : World} {D : SD} {L : List (Addr × NestedKey)} (T : TellN w D L) : D.1.size = L.length := by
  rw [← Array.length_toList, T.rows, List.length_map]
theorem TellN.pz {w : World} {D : SD} {L : List (Addr × NestedKey)} (T : TellN w D L) : D.2.2.place.toList.length = L.length := by
  rw [Array.length_toList, T.tab.sz, List.length_map]
theorem TellN.fit {w : World} {D : SD} {L : List (Addr × NestedKey)} (T : TellN w D L) : D.2.2.fits D.1.size = true := by
  have z1 := T.sz
  have z2 := T.pz
  have z3 := T.sp
  rw [Array.length_toList] at z2
  have z4 : D.2.2.dummies.size = 0 := by rw [T.tab.dm]; rfl
  have z5 : D.2.2.fill = D.2.2.place.size + D.2.2.dummies.size := rfl
  unfold SetTable.fits
  rw [Bool.and_eq_true, beq_iff_eq, decide_eq_true_eq, z5]
  omega
theorem TellN.row {w : World} {D : SD} {L : List (Addr × NestedKey)} (T : TellN w D L) {i : Nat} {p : Addr × NestedKey} (e : L[i]? = some p) : D.1[i]? = some (rowN w p) := by
  have := congrArg (·[i]?) T.rows
  simp only [List.getElem?_map, e, Array.getElem?_toList] at this
  exact this
section
variable {P : Program} {w : World} {A : Around} {E : Value → Shared → Prop} {s : Shared}
mutual
/-- a key is no class statement's -/
theorem cls_of_key : ∀ (k : NestedKey) (v : Value) (n : Nat) (s : Shared) (A : Around) (Q : Bool → Shared → Prop), NestedIs s.heap k v → k.depth ≤ n → Q false s → wpAny (model P w) A (ofAClassStatement n v) Q E s
  | .none, _, n, s, A, Q, h, _, q => by
    cases h
    rw [show ofAClassStatement n Value.none = pure false by cases n <;> rfl]
    exact wpAny_pure q
  | .num i, _, n, s, A, Q, h, _, q => by
    cases h with
    | @bool b _ e => rw [show ofAClassStatement n (Value.bool b) = pure false by cases n <;> rfl]; exact wpAny_pure q
    | int _ t => rw [show ofAClassStatement n (Value.int i t) = pure false by cases n <;> rfl]; exact wpAny_pure q
  | .text x, _, n, s, A, Q, h, _, q => by
    cases h with
    | text _ t => rw [show ofAClassStatement n (Value.str x t) = pure false by cases n <;> rfl]; exact wpAny_pure q
  | .tup ks, _, 0, s, A, Q, h, hd, q => by simp [NestedKey.depth] at hd
  | .tup ks, _, n + 1, s, A, Q, h, hd, q => by
    cases h with
    | @tup a o vs m _ e1 e2 e3 e4 =>
      simp only [NestedKey.depth] at hd
      unfold ofAClassStatement
      refine wpAny_bind (wpAny_typeOf (T := "tuple") ⟨o, e1, e2⟩ ?_)
      dsimp only
      refine wp_if_pos (by decide) ?_
      refine wpAny_bind (wpAny_pure ?_)
      simp only [Bool.not_true, Bool.false_eq_true, ↓reduceIte]
      refine wpAny_bind (wpAny_seqItems e1 e3 ?_)
      dsimp only
      rw [← Array.forIn_toList]
      exact wpAny_bind (cls_of_keys ks vs.toList n s A _ e4 (by omega) (wpAny_pure q))
theorem cls_of_keys : ∀ (ks : List NestedKey) (vs : List Value) (n : Nat) (s : Shared) (A : Around) (Q : Option Bool × PUnit → Shared → Prop), NestedAll s.heap ks vs → NestedKey.depthAll ks ≤ n → Q (none, ⟨⟩) s →
    wpAny (model P w) A (forIn vs ((none, ⟨⟩) : Option Bool × PUnit) fun y r => do
      if (← ofAClassStatement n y) = true then pure (ForInStep.done (some true, ⟨⟩)) else pure (ForInStep.yield (none, ⟨⟩))) Q E s
  | [], _, n, s, A, Q, h, _, q => by cases h; rw [List.forIn_nil]; exact wpAny_pure q
  | k :: ks, _, n, s, A, Q, h, hd, q => by
    cases h with
    | @cons _ v _ vs h1 h2 =>
      simp only [NestedKey.depthAll] at hd
      rw [List.forIn_cons]
      refine wpAny_bind (wpAny_bind (cls_of_key k v n s A _ h1 (by omega) ?_))
      rw [if_neg (by decide)]
      exact wpAny_pure (cls_of_keys ks vs n s A Q h2 (by omega) q)
end
end
section
variable {P : Program} {w : World} {A : Around} {E : Value → Shared → Prop} {s : Shared}
/-- is it hashed by value: whatever the answer -/
theorem byv_of_key (k : NestedKey) (v : Value) (n : Nat) (s : Shared) (A : Around) (Q : Bool → Shared → Prop) (h : NestedIs s.heap k v) (q : ∀ b, Q b s) : wpAny (model P w) A (hashByValue n v) Q E s := by
  induction n generalizing k v Q with
  | zero => cases h <;> exact wpAny_pure (q _)
  | succ n ih =>
    cases h with
    | none => exact wpAny_pure (q _)
    | bool e => exact wpAny_pure (q _)
    | int _ t => exact wpAny_pure (q _)
    | text _ t => exact wpAny_pure (q _)
    | @tup a o vs m ks e1 e2 e3 e4 =>
      unfold hashByValue
      refine wpAny_bind (wpAny_specialOf (T := "tuple") ⟨o, e1, e2⟩ F.slot_tuple_hash.lookup ?_)
      show wpAny _ _ (seqItems? (.ref a) >>= _) _ _ s
      refine wpAny_bind (wpAny_seqItems e1 e3 ?_)
      dsimp only
      refine wpAny_bind ?_
      show wpAny _ _ (forIn vs _ _) _ _ s
      rw [← Array.forIn_toList]
      refine wpAny_forIn_list _ (fun us b t => b.1 = none ∧ t = s ∧ ∃ js, NestedAll s.heap js us) _ ?_ ?_ _ _ ⟨rfl, rfl, ks, e4⟩
      · rintro u us b t ⟨h1, rfl, js, h2⟩
        cases h2 with
        | @cons j _ js _ g1 g2 =>
          refine wpAny_bind (ih j u _ g1 fun y => ?_)
          cases y
          · exact wpAny_pure (wpAny_pure (q _))
          · exact wpAny_pure ⟨rfl, rfl, js, g2⟩
      · rintro ⟨b1, b2⟩ t ⟨h1, rfl, _⟩
        simp only at h1
        subst h1
        exact wpAny_pure (q _)
/-- no search among keys is seen -/
theorem unseen {k : NestedKey} {x : Addr} {ys : List Value} {Q : Bool → Shared → Prop} (hx : KAt s.heap (x, k)) (hy : ∀ y ∈ ys, ∃ p, KAt s.heap p ∧ y = .ref p.1) (q : Q false s) : wpAny (model P w) A (searchCouldBeSeen (.ref x) ys) Q E s := by
  unfold searchCouldBeSeen
  refine wpAny_bind (wpAny_forIn_list _ (fun us b t => b.1 = none ∧ t = s ∧ ∀ y ∈ us, ∃ p, KAt s.heap p ∧ y = .ref p.1) _ ?_ ?_ _ _ ⟨rfl, rfl, hy⟩)
  · rintro u us b t ⟨h1, rfl, h2⟩
    obtain ⟨p, hp, rfl⟩ := h2 u (by simp)
    have h3 : ∀ y ∈ us, ∃ p, KAt t.heap p ∧ y = .ref p.1 := fun y hy => h2 y (by simp [hy])
    dsimp only
    by_cases c : (x == p.1 || (carriedByValue (.ref x) && carriedByValue (.ref p.1))) = true
    · exact wp_if_pos c (wpAny_pure ⟨rfl, rfl, h3⟩)
    refine wp_if_neg c ?_
    refine wpAny_bind ((nestedKind P w).quiet (k := k) ⟨hx.is, hx.dp⟩ ?_)
    refine wp_if_neg (by decide) ?_
    refine wpAny_bind ((nestedKind P w).quiet (k := p.2) ⟨hp.is, hp.dp⟩ ?_)
    refine wp_if_neg (by decide) ?_
    refine wpAny_bind (cls_of_key k _ 8 t _ _ hx.is hx.dp ?_)
    refine wp_if_neg (by decide) ?_
    refine wpAny_bind (cls_of_key p.2 _ 8 t _ _ hp.is hp.dp ?_)
    exact wp_if_neg (by decide) (wpAny_pure ⟨rfl, rfl, h3⟩)
  · rintro ⟨b1, b2⟩ t ⟨h1, rfl, _⟩
    simp only at h1
    subst h1
    exact wpAny_pure q
/-- the c-th state of the way of a hash -/
abbrev pb (t : SetTable) (h : Int) (c : Nat) : SetTable.Probe := nth t.mask (t.probeStart h) c
theorem pb_add (t : SetTable) (h : Int) (c q : Nat) : nth t.mask (pb t h c) q = pb t h (c + q) := (nth_add t.mask c _ q).symm
theorem pb_dummy (t : SetTable) (h : Int) (c : Nat) : (pb t h c).dummy = none := by
  induction c with
  | zero => rfl
  | succ c ih =>
    rw [pb, nth_succ]
    unfold adv
    split <;> exact ih
theorem seek {a : Addr} {D : SD} {L : List (Addr × NestedKey)} (e : s.heap.get? a = some (sObj "set" D)) (T : TellN w D L) (hL : ∀ p ∈ L, KAt s.heap p) {x : Addr} {k : NestedKey} (hx : KAt s.heap (x, k)) (hu : A.units + 8 < cLine) {N : Nat}
    (hN : N < 10 * SetTable.turns D.2.2.mask) (hf : (pb D.2.2 (k.hash w) N).j ∉ D.2.2.place.toList) (hb : ∀ c < N, (pb D.2.2 (k.hash w) c).j ∈ D.2.2.place.toList) {Q : SetFound → Shared → Prop}
    (there : k ∈ L.map (·.2) → Q (.there none) s) (free : k ∉ L.map (·.2) → Q (.free (pb D.2.2 (k.hash w) N).j false) s) :
    ∀ (d c f : Nat) (stand : Option SetTable.Probe), N < d + c → c ≤ N → d ≤ f → stand.getD (D.2.2.probeStart (k.hash w)) = pb D.2.2 (k.hash w) c →
      (∀ c' < c, ∀ (i : Nat) p, D.2.2.place.toList[i]? = some (pb D.2.2 (k.hash w) c').j → L[i]? = some p → p.2 ≠ k) → wpAny (model P w) A (setSearchFrom a (.ref x) (k.hash w) true f stand) Q E s := by
  obtain ⟨es, ep, t⟩ := D
  have dt : (sObj "set" (es, ep, t)).data = .set es ep t := rfl
  dsimp only at *
  have pz : t.place.toList.length = L.length := T.pz
  have hA : ∀ (i : Nat) p, L[i]? = some p → (es[i]?.map (·.1)).getD 0 = hkN w p := fun i p hp => by
    have := T.row hp
    dsimp only at this
    rw [this]; rfl
  have inL : ∀ (i j : Nat), t.place.toList[i]? = some j → ∃ p, L[i]? = some p := fun i j h => by
    have : i < t.place.toList.length := (List.getElem?_eq_some_iff.mp h).1
    exact ⟨L[i]'(by omega), List.getElem?_eq_getElem (by omega)⟩
  have gw : ¬ t.gaveWay = true := by
    unfold SetTable.gaveWay
    rw [mask_odd T.tab.mok]; decide
  intro d
  induction d with
  | zero => intro c f stand h1 h2; omega
  | succ d ih =>
    intro c f stand h1 h2 h3 hs hp
    obtain ⟨f, rfl⟩ : ∃ g, f = g + 1 := ⟨f - 1, by omega⟩
    rw [setSearchFrom_succ]
    refine wpAny_bind (wpAny_setState_of e dt T.fit ?_)
    dsimp only
    refine wp_if_neg gw ?_
    rw [hs]
    have sp := go_spec t T.tab.ris T.tab.dm (fun i => (es[i]?.map (·.1)).getD 0) (k.hash w) (10 * SetTable.turns t.mask) (N - c) (pb t (k.hash w) c) (pb_dummy ..) (by omega)
      (fun q hq => by rw [pb_add]; exact hb _ (by omega)) (by rw [pb_add, show c + (N - c) = N by omega]; exact hf)
    simp only [pb_add] at sp
    rw [show c + (N - c) = N by omega] at sp
    rcases sp with ⟨q, i, hq, hi, hh, hno, ho⟩ | ⟨hno, ho⟩
    · rw [show t.probe (fun i => (es[i]?.map (·.1)).getD 0) (k.hash w) (pb t (k.hash w) c) = _ from ho]
      dsimp only
      obtain ⟨p, hpi⟩ := inL _ _ hi
      have pL := List.mem_of_getElem? hpi
      have rest : wpAny (model P w) A (searchRest a (.ref x) (k.hash w) true f es t (pb t (k.hash w) (c + q)).j i (pb t (k.hash w) (c + (q + 1)))) Q E s := by
        unfold searchRest
        have rw1 : es[i]? = some (rowN w p) := T.row hpi
        rw [rw1]
        dsimp only
        refine wpAny_bind (wpAny_holding ((nestedKind P w).eqBool (x := p.2) (y := k) hu ⟨(hL p pL).is, (hL p pL).dp⟩ ⟨hx.is, hx.dp⟩ ?_))
        refine wpAny_bind (wpAny_setState_of e dt T.fit ?_)
        dsimp only
        by_cases ek : p.2 = k
        · exact wp_if_pos (by simp [ek]) (wpAny_pure (there (List.mem_map.mpr ⟨p, pL, ek⟩)))
        refine wp_if_neg (by simp [ek]) ?_
        rw [sameMem]
        have sl := slot_live T.tab.ris hi
        simp only [↓reduceIte, sl, rw1]
        refine wpAny_bind (wpAny_isSame_ref_self (wpAny_bind (wpAny_pure ?_)))
        simp only [↓reduceIte]
        refine wp_if_neg (by simp [ek]) ?_
        refine ih (c + (q + 1)) f _ (by omega) (by omega) (by omega) rfl fun c' hc' i' p' hi' hp' => ?_
        rcases Nat.lt_trichotomy c' (c + q) with z | z | z
        · rcases Nat.lt_or_ge c' c with y | y
          · exact hp c' y i' p' hi' hp'
          · intro ep'
            refine hno (c' - c) i' (by omega) (by rw [show c + (c' - c) = c' by omega]; exact hi') ?_
            rw [hA i' p' hp', hkN, ep']
        · subst z
          have s2 := slot_live T.tab.ris hi'
          rw [sl] at s2
          injection s2 with s2
          subst s2
          rw [hpi] at hp'
          cases hp'
          exact ek
        · omega
      by_cases hl : t.led = true
      · exact wp_if_neg (by simp [hl]) rest
      · refine wp_if_pos (by simp [hl]) (wpAny_bind (unseen hx (fun y hy => ?_) (wp_if_neg (by decide) rest)))
        obtain ⟨r, hr, rfl⟩ := List.mem_map.mp hy
        have r1 : r ∈ es.toList := by
          have := (Array.mem_filter.mp (Array.mem_toList_iff.mp hr)).1
          exact Array.mem_toList_iff.mpr this
        rw [show es.toList = L.map (rowN w) from T.rows] at r1
        obtain ⟨p', hp', rfl⟩ := List.mem_map.mp r1
        exact ⟨p', hL p' hp', rfl⟩
    · rw [show t.probe (fun i => (es[i]?.map (·.1)).getD 0) (k.hash w) (pb t (k.hash w) c) = _ from ho]
      dsimp only
      refine wpAny_pure (free fun hm => ?_)
      obtain ⟨p, pL, pk⟩ := List.mem_map.mp hm
      obtain ⟨i, hi⟩ := List.mem_iff_getElem?.mp pL
      have il : i < t.place.toList.length := by rw [pz]; exact (List.getElem?_eq_some_iff.mp hi).1
      have hj := List.getElem?_eq_getElem il
      obtain ⟨c', hc', ej⟩ := T.tab.before (h := k.hash w) (K := N) hf (by rw [List.getElem?_map, hi, ← pk]; rfl) hj
      rw [← ej] at hj
      rcases Nat.lt_or_ge c' c with y | y
      · exact hp c' y i p hj hi pk
      · refine hno (c' - c) i (by omega) (by rw [show c + (c' - c) = c' by omega]; exact hj) ?_
        rw [hA i p hi, hkN, pk]
theorem range_fm {α : Type} (L : List α) : (List.range L.length).filterMap (L[·]?) = L := by
  induction L with
  | nil => rfl
  | cons x L ih =>
    rw [List.length_cons, List.range_succ_eq_map, List.filterMap_cons_some (f := fun i => (x :: L)[i]?) (b := x) rfl, List.filterMap_map]
    exact congrArg (x :: ·) ih
/-- the rows in another order -/
theorem rows_in (L : List (Addr × NestedKey)) {es : Array (Int × Value)} {o : Array Nat} (h : es.toList = L.map (rowN w)) (hp : o.toList.Perm (List.range L.length)) :
    ∃ M : List (Addr × NestedKey), (o.filterMap (es[·]?)).toList = M.map (rowN w) ∧ M.Perm L ∧ M.map (hkN w) = o.toList.map fun i => (es.map (·.1)).getD i 0 := by
  have hi : ∀ i, es[i]? = (L[i]?).map (rowN w) := fun i => by rw [← Array.getElem?_toList, h, List.getElem?_map]
  refine ⟨o.toList.filterMap (L[·]?), ?_, ?_, ?_⟩
  · rw [Array.toList_filterMap, List.map_filterMap]
    exact congrFun (congrArg _ (funext hi)) _
  · have := hp.filterMap (L[·]?)
    rw [range_fm] at this
    exact this
  · have ho : ∀ i ∈ o.toList, i < L.length := fun i z => List.mem_range.mp (hp.mem_iff.mp z)
    generalize o.toList = l at ho
    induction l with
    | nil => rfl
    | cons i l ihl =>
      have il := ho i (by simp)
      have e1 := List.getElem?_eq_getElem il
      rw [List.filterMap_cons_some e1, List.map_cons, List.map_cons, ihl fun j z => ho j (by simp [z])]
      congr 1
      have := hi i
      rw [e1] at this
      rw [Array.getD_eq_getD_getElem?, Array.getElem?_map, this]; rfl
end
/-- at a stands a set of the keyed tuples -/
structure Nts (w : World) (h : Heap) (a : Addr) (L : List (Addr × NestedKey)) : Prop where
  ob : ∃ D : SD, h.get? a = some (sObj "set" D) ∧ TellN w D L
  el : ∀ p ∈ L, KAt h p
theorem Nts.keep {w : World} {h h' : Heap} {a : Addr} {L : List (Addr × NestedKey)} (S : Nts w h a L) (k : ∀ c o, h.get? c = some o → h'.get? c = some o) : Nts w h' a L := by
  obtain ⟨D, e, T⟩ := S.ob
  exact ⟨⟨D, k _ _ e, T⟩, fun p hp => (S.el p hp).keep k⟩
theorem vacant_nts {w : World} {h : Heap} {a : Addr} (e : h.get? a = some (vacant (!w.params.followText "set-order"))) : Nts w h a [] := by
  refine ⟨⟨(#[], 0, .fresh 0 0 (!w.params.followText "set-order")), e, rfl, ⟨.nil, rfl, rfl, .inl rfl, (fun x hx => nomatch hx), (fun i h j hi => nomatch hi)⟩, (show 0 * 5 < 7 * 3 by decide), ?_, .nil⟩, (fun p hp => nomatch hp)⟩
  show _ ∨ (!w.params.followText "set-order") = true
  cases w.params.followText "set-order" <;> simp
section
variable {P : Program} {w : World} {A : Around} {E : Value → Shared → Prop} {s : Shared}
theorem set_written {h : Heap} {a : Addr} {es es' : Array (Int × Value)} {ep : Nat} {t t' : SetTable} (e : h.get? a = some (sObj "set" (es, ep, t))) : (h.update a (Obj.putSet es' t')).get? a = some (sObj "set" (es', ep + 1, t')) :=
  store_at e rfl
theorem lay_anew {a : Addr} {es : Array (Int × Value)} {ep : Nat} {t : SetTable} {L : List (Addr × NestedKey)} (e : s.heap.get? a = some (sObj "set" (es, ep, t))) (r : es.toList = L.map (rowN w)) (T : TabOk t (L.map (hkN w))) (fl : L.length ≤ t.mask)
    (ld : w.params.followText "set-order" = true ∨ t.led = true) (nd : (L.map (·.2)).Nodup) (few : L.length < 64) {wanted M : Nat} (hw : SetTable.sizeAbove wanted - 1 = M) (hM : MaskOk M) (h2 : SetTable.sizeAbove wanted ≤ 128) (hn : L.length * 5 < M * 3) {Q : Unit → Shared → Prop}
    (q : ∀ h' D' L', (∀ c, c ≠ a → h'.get? c = s.heap.get? c) → h'.get? a = some (sObj "set" D') → TellN w D' L' → L'.Perm L → Q () { s with heap := h' }) : wpAny (model P w) A (setRelay a wanted) Q E s := by
  have zs : es.size = L.length := by rw [← Array.length_toList, r, List.length_map]
  have zp : t.place.size = L.length := by rw [T.sz, List.length_map]
  have dm : t.dummies.size = 0 := by rw [T.dm]; rfl
  have fit : t.fits es.size = true := by
    have : t.fill = t.place.size + t.dummies.size := rfl
    unfold SetTable.fits
    rw [Bool.and_eq_true, beq_iff_eq, decide_eq_true_eq, this]
    omega
  obtain ⟨t', o, e1, op, T', em, el, _, _⟩ := relaid_ok t (hs := es.map (·.1)) (wanted := wanted) hw hM (by rw [Array.size_map]; omega)
  rw [Array.size_map, zs] at op
  obtain ⟨L', r', p', hh⟩ := rows_in L r op
  rw [← hh] at T'
  have zs' : (o.filterMap (es[·]?)).size = es.size := by rw [← Array.length_toList, r', List.length_map, p'.length_eq, zs]
  have big : (128 : Nat) ≤ sizeLine := by decide
  rw [setRelay_eq]
  refine wpAny_bind (wpAny_setState_of e rfl fit ?_)
  dsimp only
  refine wp_if_neg (by omega) ?_
  rw [e1]
  dsimp only
  refine wpAny_bind (wp_if_neg (by rw [zs']; simp) (wpAny_pure ?_))
  dsimp only
  refine wpAny_storeSet_of e rfl (q _ _ L' (fun c hc => Heap.get?_update_other _ _ (Ne.symm hc)) (set_written e) ⟨r', T', ?_, ?_, ?_⟩ p') (by rw [zs', zs]; omega)
  · show _ < t'.mask * 3
    rw [em, p'.length_eq]; exact hn
  · show _ ∨ t'.led = true
    rw [el]; exact ld
  · exact (p'.map (·.2)).nodup_iff.mpr nd
/-- one more -/
theorem nts_add {a : Addr} {L : List (Addr × NestedKey)} (S : Nts w s.heap a L) {x : Addr} {k : NestedKey} (hx : KAt s.heap (x, k)) (hu : A.units + 8 < cLine) (few : L.length + 1 < 64) {Q : Bool → Shared → Prop}
    (q : ∀ b h' L', (∀ c, c ≠ a → h'.get? c = s.heap.get? c) → Nts w h' a L' → (∀ p ∈ L', p ∈ L ∨ p = (x, k)) → (∀ j, j ∈ L'.map (·.2) ↔ j ∈ L.map (·.2) ∨ j = k) → L'.length ≤ L.length + 1 → Q b { s with heap := h' }) :
    wpAny (model P w) A (setAddHashed a (.ref x) (k.hash w)) Q E s := by
  obtain ⟨⟨es, ep, t⟩, e, T⟩ := S.ob
  have sp : L.length * 5 < t.mask * 3 := T.sp
  have tab : TabOk t (L.map (hkN w)) := T.tab
  have rws : es.toList = L.map (rowN w) := T.rows
  have zs : es.size = L.length := T.sz
  have big : (128 : Nat) ≤ sizeLine := by decide
  obtain ⟨N, n1, n2, n3⟩ := tab.first (by rw [List.length_map]; omega) (k.hash w)
  unfold setAddHashed
  refine wpAny_holding ?_
  rw [show (100000 : Nat) = 99999 + 1 from rfl, setAddHashedIn_succ]
  refine wpAny_bind (wpAny_setState_of e rfl T.fit ?_)
  dsimp only
  refine wp_if_neg (by simp [byScan, Value.scannable]) ?_
  unfold setSearch
  have nb : N < 100000 := by
    have : 10 * SetTable.turns t.mask ≤ 2000 := by
      unfold SetTable.turns
      rcases tab.mok with z | z | z <;> omega
    omega
  refine wpAny_bind (seek e T S.el hx hu n1 n2 n3 (fun hm => ?_) (fun hm => ?_) 100000 0 100000 none (by omega) (by omega) (by omega) rfl (fun c hc => absurd hc (Nat.not_lt_zero _)))
  · dsimp only
    exact wpAny_pure (q false s.heap L (fun _ _ => rfl) S (fun p hp => .inl hp) (fun j => ⟨.inl, fun z => z.elim id fun y => y ▸ hm⟩) (Nat.le_succ _))
  dsimp only
  refine wpAny_bind (wpAny_setState_of e rfl T.fit ?_)
  dsimp only
  obtain ⟨q1, q2, q3, q4, q5, q6, q7, q8, q9⟩ := tab.put n2 n3
  have wj : way t.mask (k.hash w) N = (pb t (k.hash w) N).j := rfl
  rw [wj] at q1 q2 q3 q4 q5 q6 q7 q8 q9
  generalize ht1 : t.put (pb t (k.hash w) N).j = tp at q1 q3 q4 q5 q6 q7 q8 q9
  obtain ⟨t1, m⟩ := tp
  dsimp only at q1 q3 q4 q5 q6 q7 q8 q9 ⊢
  generalize SetTable.below t.place (pb t (k.hash w) N).j = m0 at q1 q2 q3
  subst q1
  rw [List.length_map] at q2 q9
  -- whichever the answer on hashes by value is
  have go : ∀ t2 : SetTable, t2.place = t1.place → t2.dummies = t1.dummies → t2.mask = t1.mask → t2.led = t1.led → wpAny (model P w) A (do
      storeSet a (SetTable.insertAt es m (k.hash w, .ref x)) t2
      if (!false && t2.tooFull) = true then setRelay a (SetTable.grown (es.size + 1))
      return true) Q E s := fun t2 g1 g2 g3 g4 => by
    have pm := put_perm L m (x, k)
    have T2 : TabOk t2 ((L.take m ++ (x, k) :: L.drop m).map (hkN w)) := by
      have : (L.take m ++ (x, k) :: L.drop m).map (hkN w) = (L.map (hkN w)).take m ++ k.hash w :: (L.map (hkN w)).drop m := by rw [List.map_append, List.map_cons, List.map_take, List.map_drop]
      rw [this]
      have := q3
      exact ⟨by rw [g1]; exact this.ris, by rw [g2]; exact this.dm, by rw [g1]; exact this.sz, by rw [g3]; exact this.mok, by rw [g1, g3]; exact this.bd, by rw [g1, g3]; exact this.reach⟩
    have r2 : (SetTable.insertAt es m (k.hash w, .ref x)).toList = (L.take m ++ (x, k) :: L.drop m).map (rowN w) := by
      rw [SetTable.toList_insertAt, rws, List.map_append, List.map_cons, List.map_take, List.map_drop]
    have nd2 : ((L.take m ++ (x, k) :: L.drop m).map (·.2)).Nodup := (pm.map (·.2)).nodup_iff.mpr (List.nodup_cons.mpr ⟨hm, T.nd⟩)
    have ln2 : (L.take m ++ (x, k) :: L.drop m).length = L.length + 1 := pm.length_eq
    have fil : t2.fill = L.length + 1 := by
      rw [← q9]
      show t2.place.size + t2.dummies.size = t1.place.size + t1.dummies.size
      rw [g1, g2]
    have ld2 : w.params.followText "set-order" = true ∨ t2.led = true := by rw [g4, q5]; exact T.ld
    generalize L.take m ++ (x, k) :: L.drop m = L2 at pm T2 r2 nd2 ln2
    have zs2 : (SetTable.insertAt es m (k.hash w, .ref x)).size = L.length + 1 := by rw [← Array.length_toList, r2, List.length_map, ln2]
    generalize SetTable.insertAt es m (k.hash w, .ref x) = es2 at r2 zs2
    refine wpAny_bind (wpAny_storeSet_of e rfl ?_ (by rw [zs2]; omega))
    have e2 := set_written (es' := es2) (t' := t2) e
    have oth : ∀ c, c ≠ a → (s.heap.update a (Obj.putSet es2 t2)).get? c = s.heap.get? c := fun c hc => Heap.get?_update_other _ _ (Ne.symm hc)
    generalize s.heap.update a (Obj.putSet es2 t2) = h2 at e2 oth
    have fin : ∀ (h' : Heap) (D' : SD) (L' : List (Addr × NestedKey)), (∀ c, c ≠ a → h'.get? c = s.heap.get? c) → h'.get? a = some (sObj "set" D') → TellN w D' L' → L'.Perm ((x, k) :: L) → Q true { s with heap := h' } := fun h' D' L' o1 o2 o3 o4 => by
      refine q true h' L' o1 ⟨⟨D', o2, o3⟩, fun p hp => ?_⟩ (fun p hp => ?_) (fun j => ?_) (by rw [o4.length_eq]; exact Nat.le_refl _)
      · have : KAt s.heap p := by
          rcases List.mem_cons.mp (o4.mem_iff.mp hp) with z | z
          · rw [z]; exact hx
          · exact S.el p z
        exact this.but e o1
      · exact (List.mem_cons.mp (o4.mem_iff.mp hp)).symm
      · rw [(o4.map (·.2)).mem_iff, List.map_cons, List.mem_cons, Or.comm]
    by_cases tf : t2.tooFull = true
    · refine wp_if_pos (by simp [tf]) (wpAny_bind ?_)
      have full : (L.length + 1) * 5 ≥ t.mask * 3 := by
        have := tf
        unfold SetTable.tooFull at this
        rw [decide_eq_true_eq, fil, g3, q4] at this
        exact this
      have two : (t.mask = 7 ∧ L.length = 4) ∨ (t.mask = 31 ∧ L.length = 18) := by
        rcases tab.mok with z | z | z
        · exact .inl ⟨z, by omega⟩
        · exact .inr ⟨z, by omega⟩
        · omega
      rw [zs]
      rcases two with ⟨z1, z2⟩ | ⟨z1, z2⟩
      · refine lay_anew (s := { s with heap := h2 }) (M := 31) e2 r2 T2 (by omega) ld2 nd2 (by omega) (by rw [z2, size_20]) (.inr (.inl rfl)) (by rw [z2, size_20]; decide) (by omega) fun h' D' L' o1 o2 o3 o4 => ?_
        exact wpAny_pure (fin h' D' L' (fun c hc => (o1 c hc).trans (oth c hc)) o2 o3 (o4.trans pm))
      · refine lay_anew (s := { s with heap := h2 }) (M := 127) e2 r2 T2 (by omega) ld2 nd2 (by omega) (by rw [z2, size_76]) (.inr (.inr rfl)) (by rw [z2, size_76]; decide) (by omega) fun h' D' L' o1 o2 o3 o4 => ?_
        exact wpAny_pure (fin h' D' L' (fun c hc => (o1 c hc).trans (oth c hc)) o2 o3 (o4.trans pm))
    · refine wp_if_neg (by simp [tf]) (wpAny_pure (fin h2 _ L2 oth e2 ⟨r2, T2, ?_, ld2, nd2⟩ pm))
      have := tf
      unfold SetTable.tooFull at this
      rw [decide_eq_true_eq, fil] at this
      show L2.length * 5 < t2.mask * 3
      omega
  by_cases pl : t1.plain = true
  · refine wp_if_pos pl (wpAny_bind (byv_of_key k _ 8 s A _ hx.is fun b => ?_))
    cases b
    · exact go _ rfl rfl rfl rfl
    · exact go _ rfl rfl rfl rfl
  · refine wp_if_neg pl (wpAny_bind (wpAny_pure ?_))
    exact go _ rfl rfl rfl rfl
end
section
variable {P : Program} {w : World} {s : Shared} {A : Around} {E : Value → Shared → Prop}
theorem nodup_in {α : Type} [DecidableEq α] : ∀ {l m : List α}, l.Nodup → (∀ x ∈ l, x ∈ m) → l.length ≤ m.length
  | [], _, _, _ => Nat.zero_le _
  | x :: l, m, hn, hs => by
    have hx := hs x (by simp)
    obtain ⟨n1, n2⟩ := List.nodup_cons.mp hn
    have ih := nodup_in n2 (m := m.erase x) fun y hy => (List.mem_erase_of_ne fun (z : y = x) => n1 (z ▸ hy)).mpr (hs y (by simp [hy]))
    have := (List.perm_cons_erase hx).length_eq
    rw [List.length_cons] at this ⊢
    omega
theorem map_take_succ {ws : List (Addr × NestedKey)} {i : Nat} {p : Addr × NestedKey} (e : ws[i]? = some p) : ws.take (i + 1) = ws.take i ++ [p] := by rw [List.take_add_one, e]; rfl
/-- all the keys of a walk -/
theorem nts_fill {I : Addr} {fp wr : List Addr} {G : Array GenState → Array GenState → Prop} {n : Nat} {Pv : Nat → Value → Prop} {St : Nat → Shared → Prop} {R : Result → Shared → Prop} (W : WalksS P w A.in1 I fp wr G n Pv St)
    (a : Addr) (af : a ∉ fp) (ws : List (Addr × NestedKey)) (hn : n = ws.length) {ds : List NestedKey} (few : ds.length < 63) (din : ∀ p ∈ ws, p.2 ∈ ds) (look : ∀ i v, Pv i v → ∃ p, ws[i]? = some p ∧ v = .ref p.1) (h0 : Heap) (el : ∀ p ∈ ws, KAt h0 p) (a0 : h0.get? a = none) (w0 : ∀ b ∈ wr, h0.get? b = none) (hu : A.in1.units + 8 < cLine) :
    ∀ (m i : Nat) (s : Shared), n - i = m → i ≤ n → St i s → (∀ b o, h0.get? b = some o → s.heap.get? b = some o) →
      (∃ L, Nts w s.heap a L ∧ (∀ p ∈ L, p ∈ ws.take i) ∧ ∀ j, j ∈ L.map (·.2) ↔ j ∈ (ws.take i).map (·.2)) →
      (∀ s' L, Moved (a :: wr) G s s' → Nts w s'.heap a L → (∀ p ∈ L, p ∈ ws) → (∀ j, j ∈ L.map (·.2) ↔ j ∈ ws.map (·.2)) → (∀ b o, h0.get? b = some o → s'.heap.get? b = some o) → R (.ok (.ret .none)) s') →
      codeAny (model P w) A (.builtin "set.update.loop" ⟨[.ref a, .ref I], []⟩) R s := by
  have aw : a ∉ wr := fun z => af (W.sub _ z)
  have more : ∀ b ∈ wr, b ∈ a :: wr := fun b z => .tail _ z
  have still : ∀ {s s' : Shared}, Moved wr G s s' → (∀ b o, h0.get? b = some o → s.heap.get? b = some o) → ∀ b o, h0.get? b = some o → s'.heap.get? b = some o := fun mv k b o z => mv.heap b o (fun y => by rw [w0 b y] at z; cases z) (k b o z)
  have setat : ∀ {s s' : Shared} {L : List (Addr × NestedKey)} {i : Nat}, Moved wr G s s' → (∀ b o, h0.get? b = some o → s'.heap.get? b = some o) → (∀ p ∈ L, p ∈ ws.take i) → Nts w s.heap a L → Nts w s'.heap a L := fun mv k sub S => by
    obtain ⟨D, e, T⟩ := S.ob
    exact ⟨⟨D, mv.heap a _ aw e, T⟩, fun p hp => (el p (List.mem_of_mem_take (sub p hp))).keep k⟩
  intro m
  induction m with
  | zero =>
    intro i s hm hi st k0 ⟨L, S, sub, all⟩ k
    obtain rfl : i = n := by omega
    refine codeAny_builtin F.entry_set_update_loop (?_ : wpAny _ _ _ _ _ _); rw [Around.under_plainId F.plain_set_update_loop _]
    refine wpAny_bind (W.done s _ _ st fun s' mv => (?_ : wpAny _ A.in1 (ret Value.none) _ _ s'))
    have k1 := still mv k0
    have S1 := setat mv k1 sub S
    rw [List.take_of_length_le (by omega)] at sub all
    exact wpAny_pure (k s' L (mv.mono more) S1 sub all k1)
  | succ m ih =>
    intro i s hm hi st k0 ⟨L, S, sub, all⟩ k
    have ll : L.length ≤ ds.length := by
      obtain ⟨D0, _, T0⟩ := S.ob
      have := nodup_in T0.nd (m := ds) fun j hj => by
        obtain ⟨p, hp, rfl⟩ := List.mem_map.mp hj
        exact din p (List.mem_of_mem_take (sub p hp))
      rwa [List.length_map] at this
    refine codeAny_builtin F.entry_set_update_loop (?_ : wpAny _ _ _ _ _ _); rw [Around.under_plainId F.plain_set_update_loop _]
    refine wpAny_bind (W.item i s _ _ (by omega) st fun v s' hv st' mv => ?_)
    obtain ⟨⟨x, j⟩, hz, rfl⟩ := look i v hv
    have k1 := still mv k0
    have S1 := setat mv k1 sub S
    have hx : KAt s'.heap (x, j) := (el (x, j) (List.mem_of_getElem? hz)).keep k1
    show wpAny _ A.in1 (holding [Value.ref x] (setAdd a (.ref x)) >>= _) _ _ s'
    refine wpAny_bind (wpAny_holding ?_); unfold setAdd
    refine wpAny_holding (wpAny_bind ((nestedKind P w).pyHash (k := j) hu ⟨hx.is, hx.dp⟩ ?_))
    refine nts_add (s := { s' with toks := s'.toks + j.draws }) S1 hx hu (by omega) fun b h' L' ot S2 sub2 all2 ll2 => ?_
    have k2 : ∀ b o, h0.get? b = some o → h'.get? b = some o := fun b o z => (ot b fun y => by rw [y, a0] at z; cases z).trans (k1 b o z)
    refine wpAny_pure ⟨plainId_quiet F.plain_set_update_loop _, ih (i + 1) _ (by omega) (by omega) (W.frame _ s' _ _ st' (Nat.le_add_right _ _) fun c hc o y => ?_) k2 ⟨L', S2, fun p hp => ?_, fun y => ?_⟩ fun s2 L2 mv2 S3 sub3 all3 k3 => k s2 L2 ?_ S3 sub3 all3 k3⟩
    · rw [ot c fun y2 => af (y2 ▸ hc)]; exact y
    · rw [map_take_succ hz]
      rcases sub2 p hp with z | z
      · exact List.mem_append_left _ (sub p z)
      · rw [z]; simp
    · rw [all2 y, all y, map_take_succ hz, List.map_append, List.mem_append]; simp
    · refine Moved.trans W.gtrans ((mv.mono more).then_heap (Nat.le_add_right _ _) fun c o hc y => ?_) mv2
      rw [ot c fun y2 => hc (y2 ▸ .head _)]; exact y
/-- set(xs), xs a list of keys -/
theorem nset_made {l : Addr} {items : Array Value} {ws : List (Addr × NestedKey)} {Q : Value → Shared → Prop} (hh : A.handled = none) (hl : s.heap.IsList l items) (hi : items.toList = ws.map fun p => Value.ref p.1) (el : ∀ p ∈ ws, KAt s.heap p) {ds : List NestedKey} (few : ds.length < 63) (din : ∀ p ∈ ws, p.2 ∈ ds) (hu : A.units + 20 < cLine)
    (q : ∀ (h' : Heap) (tk : Nat) (L : List (Addr × NestedKey)), Nts w h' s.heap.objs.size L → (∀ p ∈ L, p ∈ ws) → (∀ j, j ∈ L.map (·.2) ↔ j ∈ ws.map (·.2)) → (∀ b o, s.heap.get? b = some o → h'.get? b = some o) → Q (.ref s.heap.objs.size) { s with heap := h', toks := tk }) :
    wpAny (model P w) A (call (.type "set") [.ref l]) Q E s := by
  have isz : items.size = ws.length := by rw [← Array.length_toList, hi, List.length_map]
  obtain ⟨c0, t0, r0⟩ := F.called_set.mro
  have f1 := F.called_set.made; have f2 := F.called_set.sub; have f3 := F.called_set.notType; have f4 := F.called_set.canCreate; have f5 := F.typeCall_set_1 (.ref l)
  refine wpAny_call (codeAny_of_tree ?_); show wpAny _ _ (callAny (.type "set") _) _ _ _
  refine wpAny_pure ⟨Code.quiet_builtin _ (by decide +kernel), codeAny_builtin F.entry_type_call ?_⟩; rw [Around.under_plain (weight_type_call_type "set" [.ref l] []) rfl]
  repeat any_goals first | assumption | wp_step
  have lz : l < s.heap.objs.size := by obtain ⟨o, ho, _⟩ := hl; exact Heap.lt_size ho
  refine codeAny_mono (code_set_led1 (.ref l) (E := E) (Q₁ := fun y s1 => y = .ref s.heap.objs.size ∧ s1 = { s with heap := s.heap.push (vacant (!w.params.followText "set-order")) }) ⟨rfl, rfl⟩) fun r s1 hr => ?_
  match r, hr with
  | .error e, hr => exact hr
  | .ok (.ret y), ⟨hy, hs1⟩ =>
    subst hy; subst hs1
    have hS : (s.heap.push (vacant (!w.params.followText "set-order"))).get? s.heap.objs.size = some (vacant (!w.params.followText "set-order")) := Heap.get?_push_size _ rfl
    have z1 : (s.heap.push (vacant (!w.params.followText "set-order"))).objs.size = s.heap.objs.size + 1 := size_push' _ _
    have hl1 : (s.heap.push (vacant (!w.params.followText "set-order"))).IsList l items := hl.push _
    have hT : Shared.TypeIs { s with heap := s.heap.push (vacant (!w.params.followText "set-order")) } (.ref s.heap.objs.size) "set" := ⟨_, hS, rfl⟩
    have g1 := F.called_set.init.lookup; have g2 := F.called_set.init.bind (.ref s.heap.objs.size)
    generalize hV : (!w.params.followText "set-order") = V at hS z1 hl1 hT ⊢
    unfold vacant at hS z1 hl1 hT ⊢
    repeat any_goals first | assumption | wp_step
    refine codeAny_mono (codeAny_call_builtin (R := wants (fun y s2 => y = .none ∧ ∃ h' tk L, s2 = { s with heap := h', toks := tk } ∧ Nts w h' s.heap.objs.size L ∧ (∀ p ∈ L, p ∈ ws) ∧ (∀ j, j ∈ L.map (·.2) ↔ j ∈ ws.map (·.2)) ∧ ∀ b o, s.heap.get? b = some o → h'.get? b = some o) E)
      F.called_set.init.plain F.entry_set_init (check_set_init_1 hT ?_)) fun r2 s2 hr2 => ?_
    · obtain ⟨ol, hol, hcl, nl, hdl⟩ := id hl1
      obtain ⟨oc, od, oa, oz⟩ := ol; simp only at hcl hdl; subst hcl; subst hdl
      have k1 := F.sub_list_set; have k2 := F.sub_list_frozenset
      have k3 : (Value.type "list" == Value.type "dict") = false := by decide
      unfold Builtin.«set.__init__» noKeywords Builtin.Frozenset.updateFrom; generalize hPI : pyIter = PI
      wp_walk
      subst hPI
      refine wpAny_pyIter_list hl1 ?_; refine wpAny_bind (wpAny_runValue ?_)
      have nI : l ≠ (s.heap.push (vacant V)).objs.size := by unfold vacant; rw [z1]; exact Nat.ne_of_lt (Nat.lt_succ_of_lt lz)
      have nS : s.heap.objs.size ∉ [(s.heap.push (vacant V)).objs.size, l] := by unfold vacant; rw [z1]; simp only [List.mem_cons, List.not_mem_nil, or_false, not_or]; exact ⟨Nat.ne_of_lt (Nat.lt_succ_self _), Nat.ne_of_gt lz⟩
      have gone : ∀ b, s.heap.objs.size ≤ b → s.heap.get? b = none := fun b hb => by
        cases q : s.heap.get? b with
        | none => rfl
        | some o => exact absurd (Heap.lt_size q) (Nat.not_lt_of_le hb)
      refine nts_fill ((Walks.list (by simp [hh]) _ l nI items).toS) s.heap.objs.size nS ws isz few din (fun i v hv => ?_) s.heap el (gone _ (Nat.le_refl _)) (fun b hb => gone b ?_) (show A.units + 11 < cLine by omega) (items.size - 0) 0 _ (by omega) (Nat.zero_le _)
        ⟨⟨_, Heap.get?_push_size _ rfl, rfl, rfl⟩, (hl1.push _)⟩ (fun b o e => Heap.get?_push_of_some _ (Heap.get?_push_of_some _ e)) ⟨[], vacant_nts (by rw [hV]; unfold vacant; exact Heap.get?_push_of_some _ hS), (fun p hp => nomatch hp), by simp⟩ fun s' L hm S sub all hk => ?_
      · have e : items.toList[i]? = some v := by rw [Array.getElem?_toList]; exact hv
        rw [hi, List.getElem?_map] at e
        obtain ⟨p, e1, e2⟩ := Option.map_eq_some_iff.mp e
        exact ⟨p, e1, e2.symm⟩
      · rw [List.mem_singleton.mp hb]
        unfold vacant
        rw [z1]
        exact Nat.le_succ _
      obtain ⟨h', g2, d', tk', os'⟩ := s'; obtain rfl : g2 = s.gens := hm.gens; obtain rfl : d' = s.drawn := hm.drawn; obtain rfl : os' = s.os := hm.os
      show wpAny _ _ _ _ _ _
      refine wpAny_pure (?_ : wpAny _ _ (ret Value.none) _ _ _)
      exact wpAny_pure ⟨rfl, h', tk', L, rfl, S, sub, all, hk⟩
    · match r2, hr2 with
      | .error e, hr2 => exact hr2
      | .ok (.ret y), ⟨hy, h', tk, L, hs2, S, sub, all, hk⟩ =>
        subst hy; subst hs2
        repeat any_goals first | assumption | wp_step
        exact q _ _ _ S sub all hk
end
section
variable {K : PySem.W.Frag} {mg : MW} {Hd : Addr → Prop} {eh : Eh} {H : Hp}
mutual
theorem keyIs_evK : ∀ {k : NestedKey} {v : V}, Rp K mg Hd eh H (evK k) v → KeyIs K H k v
  | .none, _, h => h
  | .num _, _, h => h
  | .text _, _, h => h
  | .tup _, _, ⟨a, vs, e, h, r⟩ => ⟨a, vs, e, h, keysAre_evKs r⟩
theorem keysAre_evKs : ∀ {ks : List NestedKey} {vs : List V}, RpL K mg Hd eh H (evKs ks) vs → KeysAre K H ks vs
  | [], _, h => h
  | _ :: _, _, ⟨v, r, e, h, t⟩ => ⟨v, r, e, keyIs_evK h, keysAre_evKs t⟩
end
/-- the tuples and where they stand -/
theorem keyed_of : ∀ {ks : List NestedKey} {vs : List V}, (∀ k ∈ ks, ∃ js, k = .tup js) → RpL K mg Hd eh H (ks.map evK) vs → ∃ ws : List (Addr × NestedKey), vs = ws.map (fun p => V.ref p.1) ∧ ws.map (·.2) = ks ∧ ∀ p ∈ ws, KeyIs K H p.2 (.ref p.1)
  | [], _, _, h => by cases h; exact ⟨[], rfl, rfl, fun p hp => nomatch hp⟩
  | k :: ks, _, hk, ⟨v, r, e, h, t⟩ => by
    subst e
    obtain ⟨ws, e1, e2, e3⟩ := keyed_of (fun j hj => hk j (by simp [hj])) t
    obtain ⟨js, rfl⟩ := hk k (by simp)
    have kv := keyIs_evK (k := .tup js) h
    obtain ⟨a, us, rfl, _⟩ := id kv
    refine ⟨(a, .tup js) :: ws, by rw [e1]; rfl, by rw [List.map_cons, e2], fun p hp => ?_⟩
    rcases List.mem_cons.mp hp with z | z
    · rw [z]; exact kv
    · exact e3 p z
theorem vals_keyed : ∀ {ws : List (Addr × NestedKey)} {us : List Value}, Vals (ws.map fun p => V.ref p.1) us → us = ws.map fun p => Value.ref p.1
  | [], _, .nil => rfl
  | _ :: _, _, .cons r t => by cases r; rw [vals_keyed t]; rfl
end
theorem perm_pick {α β : Type} {f : α → β} : ∀ {vs : List β} {L : List α}, vs.Perm (L.map f) → ∃ M : List α, M.Perm L ∧ vs = M.map f
  | [], L, p => by
    have : L.map f = [] := p.symm.eq_nil
    rw [List.map_eq_nil_iff] at this
    subst this; exact ⟨[], .refl _, rfl⟩
  | v :: vs, L, p => by
    obtain ⟨x, hx, e⟩ := List.mem_map.mp (p.mem_iff.mp (List.mem_cons_self (a := v)))
    obtain ⟨A, B, rfl⟩ := List.append_of_mem hx
    have p2 : vs.Perm ((A ++ B).map f) := by
      rw [List.map_append, List.map_cons, e] at p
      rw [List.map_append]
      exact (p.trans List.perm_middle).cons_inv
    obtain ⟨M, h1, h2⟩ := perm_pick p2
    exact ⟨x :: M, (h1.cons x).trans List.perm_middle.symm, by rw [List.map_cons, e, ← h2]⟩
/-- sorted(set(e)), e a list of tuples (of tuples) of ints, texts and None: whatever the sequence in which the set is gone through -/
def mSortSetN (m : ME) : ME := fun xc es eh q => m xc es eh fun x eh1 => ∃ ks : List NestedKey, lstE eh1 x = some (ks.map evK) ∧ (∃ ds : List NestedKey, ds.length < 63 ∧ ∀ k ∈ ks, k ∈ ds) ∧ (∀ k ∈ ks, (∃ js, k = .tup js) ∧ k.depth ≤ 8) ∧
  (ks.map evK).all isD = true ∧ W.AllAlike ((ks.map evK).map D) ∧ W.Sortable ((ks.map evK).map D) ∧ (∀ y ∈ ks.map evK, (D y).depth ≤ 60) ∧
  ∀ js : List NestedKey, js.Nodup → (∀ j, j ∈ js ↔ j ∈ ks) → q (.lst (sortT (js.map evK))) eh1
section
variable {P : Program} {w : World} {s : Shared} {A : Around} {E : Value → Shared → Prop}
open PySem.W in
/-- sorted(a), a a set of keys -/
theorem nset_sorted {a : Addr} {L : List (Addr × NestedKey)} {Q : Value → Shared → Prop} {R : Value → Addr × NestedKey → Prop} (S : Nts w s.heap a L) (hh : A.handled = none) (few : L.length < 64) (hR : ∀ p ∈ L, R (.ref p.1) p)
    (er : ∀ (h' : Heap), (∀ b o, s.heap.get? b = some o → h'.get? b = some o) → ∀ p ∈ L, ∃ as, Reads h' (.ref p.1) (D (evK p.2)) as) (hal : AllAlike (L.map fun p => D (evK p.2))) (hk : W.Sortable (L.map fun p => D (evK p.2)))
    (hu : ∀ p ∈ L, A.units + 2 + (D (evK p.2)).depth < cLine)
    (q : ∀ s' p (out : List Value) (c : Nat) (M : List (Addr × NestedKey)), (∀ b o, s.heap.get? b = some o → s'.heap.get? b = some o) → s'.gens = s.gens → s'.os = s.os → s.heap.objs.size ≤ p → s'.heap.get? p = some (seqObj "list" out.toArray c) →
      M.Perm L → EachIs R out (M.mergeSort (dataLe false fun p => D (evK p.2))) → Q (.ref p) s') :
    wpAny (model P w) A (call (.builtin "sorted") [.ref a]) Q E s := by
  obtain ⟨⟨es, ep, t⟩, e, T⟩ := S.ob
  have zs : es.size = L.length := T.sz
  have rws : es.toList = L.map (rowN w) := T.rows
  have big : (64 : Nat) ≤ sizeLine := by decide
  refine call_function_entry_kw kind_sorted plain_sorted entry_sorted (args_sorted1 _) ?_
  unfold Builtin.«sorted»
  refine wpAny_bind (m := checkCount "sorted" 1 1 _) (wpAny_pure (wpAny_bind (collect_set (A := A.in1) hh ⟨_, e, rfl, rfl⟩ T.fit (by show es.size < scanBound; unfold scanBound; omega) T.tab.ris T.ld fun s1 vs k1 z1 g1 o1 pm => ?_)))
  rw [rws, List.map_map] at pm
  obtain ⟨M, pM, rfl⟩ := perm_pick (f := fun p : Addr × NestedKey => Value.ref p.1) pm
  have lM : M.length = L.length := pM.length_eq
  refine wpAny_bind (wpAny_newList ?_ (by rw [List.length_map]; omega))
  have hoL : (s1.heap.push (seqObj "list" (M.map fun p => Value.ref p.1).toArray 0)).get? s1.heap.objs.size = some (seqObj "list" (M.map fun p => Value.ref p.1).toArray 0) := Heap.get?_push_size _ rfl
  show wpAny _ _ _ _ _ { s1 with heap := s1.heap.push (seqObj "list" (M.map fun p => Value.ref p.1).toArray 0) }
  have kp2 : ∀ b o, s.heap.get? b = some o → (sortingHeap (s1.heap.push (seqObj "list" (M.map fun p => Value.ref p.1).toArray 0)) s1.heap.objs.size (M.map fun p => Value.ref p.1)).get? b = some o := fun b o eo => by
    have hb : b ≠ s1.heap.objs.size := Nat.ne_of_lt (Heap.lt_size (k1 b o eo))
    exact sortingHeap_old hb (Heap.get?_push_of_some _ (k1 b o eo))
  have er1 : EachIs R (M.map fun p => Value.ref p.1) M := eachIs_zip (by rw [List.length_map]) fun i v p h1 h2 => by
    rw [List.getElem?_map, h2] at h1
    cases h1
    exact hR p (pM.mem_iff.mp (List.mem_of_getElem? h2))
  have er2 : EachIs (fun v p => ∃ as, Reads (sortingHeap (s1.heap.push (seqObj "list" (M.map fun p => Value.ref p.1).toArray 0)) s1.heap.objs.size (M.map fun p => Value.ref p.1)) v ((fun p => D (evK p.2)) p) as) (M.map fun p => Value.ref p.1) M := eachIs_zip (by rw [List.length_map]) fun i v p h1 h2 => by
    rw [List.getElem?_map, h2] at h1
    cases h1
    exact er _ kp2 p (pM.mem_iff.mp (List.mem_of_getElem? h2))
  have hal2 : AllAlike (M.map fun p => D (evK p.2)) := fun d hd d' hd' => hal d ((pM.map _).mem_iff.mp hd) d' ((pM.map _).mem_iff.mp hd')
  have hk2 : W.Sortable (M.map fun p => D (evK p.2)) := hk.imp (fun f d hd => f d ((pM.map _).mem_iff.mp hd)) (fun f d hd => f d ((pM.map _).mem_iff.mp hd))
  have S2 : SortsAt P w A.in1.in1 { s1 with heap := sortingHeap (s1.heap.push (seqObj "list" (M.map fun p => Value.ref p.1).toArray 0)) s1.heap.objs.size (M.map fun p => Value.ref p.1) } _ (M.map fun p => Value.ref p.1) :=
    SortsAt.data (s := { s1 with heap := sortingHeap (s1.heap.push (seqObj "list" (M.map fun p => Value.ref p.1).toArray 0)) s1.heap.objs.size (M.map fun p => Value.ref p.1) }) (each_map (R := fun v d => ∃ as, Reads (sortingHeap (s1.heap.push (seqObj "list" (M.map fun p => Value.ref p.1).toArray 0)) s1.heap.objs.size (M.map fun p => Value.ref p.1)) v d as) (fun p : Addr × NestedKey => D (evK p.2)) er2) hal2 hk2 (bound_map fun (p : Addr × NestedKey) hp => hu p (pM.mem_iff.mp hp))
  refine wpAny_bind (wpAny_holding (wpAny_call_entry_kw slot_list_sort ⟨_, hoL, rfl⟩ entry_list_sort ?_ (args_list_sort _)))
  show wpAny (model P w) A.in1.in1 (Builtin.«list.sort» ⟨[.ref s1.heap.objs.size], []⟩) _ _ _
  refine list_sort_vals (s := { s1 with heap := s1.heap.push (seqObj "list" (M.map fun p => Value.ref p.1).toArray 0) }) hoL S2 (by rw [List.length_map]; omega) ⟨_, rfl, wpAny_pure ⟨_, rfl, ?_⟩⟩
  have ed := sortVals_data false er1 er2 hal2
  generalize sortVals _ false _ _ = out at ed ⊢
  obtain ⟨c, hc⟩ := PyProof.Rows.sortedHeap_at (vs := M.map fun p => Value.ref p.1) (out := out.toArray) hoL
  refine q _ s1.heap.objs.size out c M (fun b u eo => ?_) g1 o1 z1 hc pM ed
  have lt := Heap.lt_size (k1 b u eo)
  refine Eq.trans (PyProof.Rows.sortedHeap_old (Nat.ne_of_lt lt) (by rw [Heap.size_push]; exact Nat.lt_succ_of_lt lt)) ?_
  exact Heap.get?_push_of_some _ (k1 b u eo)
end
section
variable {X : Cx} {E : XK} {e : Expr} {me : ME} {p p2 pos pos2 : Pos}
theorem re_sortSetN {k0 : Nat} (hr : RoomG k0 X.A) (hc : X.calm = true) (hg : Gl X "sorted") (hm : X.mg "sorted" = none) (hg2 : Gl X "set") (hm2 : X.mg "set" = none) (he : PE X e (U X.K X.mw E me)) (na : starEach [e] X.env = (false, eval e X.env) :: starEach [] X.env := by rfl)
    (hs : starEach [.Call (.Name "set" p2) [e] [] pos2] X.env = (false, eval (.Call (.Name "set" p2) [e] [] pos2) X.env) :: starEach [] X.env := by rfl) :
    PE X (.Call (.Name "sorted" p) [.Call (.Name "set" p2) [e] [] pos2] [] pos) (U X.K X.mw E (mSortSetN me)) := by
  refine ⟨fun pins s σ H Q I ⟨Hd, es, eh, xc, q, R, xo, m, k⟩ => ?_⟩
  refine Call_ (ld_blt I hg hm boot_sorted (PyProof.Rows.callWith_builtin1 (PyProof.Rows.args_cons ?_ hs) hs rfl))
  refine Call_ (ld_blt I hg2 hm2 PyProof.Rows.boot_set (PyProof.Rows.callWith_type1 (PyProof.Rows.args_cons (thn (he.run pins s σ H (fun v H1 => ∃ eh1 x, Step eh H eh1 H1 ∧ Rh X.K X.mw Hd eh1 H1 ∧ Rp X.K X.mw Hd eh1 H1 x v ∧ ∃ ks : List NestedKey, lstE eh1 x = some (ks.map evK) ∧ (∃ ds : List NestedKey, ds.length < 63 ∧ ∀ k ∈ ks, k ∈ ds) ∧ (∀ k ∈ ks, (∃ js, k = .tup js) ∧ k.depth ≤ 8) ∧
    (ks.map evK).all isD = true ∧ W.AllAlike ((ks.map evK).map D) ∧ W.Sortable ((ks.map evK).map D) ∧ (∀ y ∈ ks.map evK, (D y).depth ≤ 60) ∧ ∀ js : List NestedKey, js.Nodup → (∀ j, j ∈ js ↔ j ∈ ks) → q (.lst (sortT (js.map evK))) eh1) I
    ⟨Hd, es, eh, xc, _, R, xo, m, fun eh1 H1 x v s1 R1 r1 m1 => ⟨eh1, x, s1, R1, r1, m1⟩⟩) fun v s1 ⟨x, H1, I1, r1, eh1, y, st, R1, r2, ks, hy, ⟨ds, hl, hdin⟩, htk, hd, hal, hsk, hdp, m1⟩ => PyProof.Rows.args_nil ?_) na) na rfl))
  obtain ⟨a, vs, rfl, hs1, rr⟩ := lst_of R1 r2 hy
  obtain ⟨ws, rfl, e2, e3⟩ := keyed_of (fun k hk => (htk k hk).1) rr
  cases r1
  obtain ⟨its, rv, pl, hz⟩ := I1.list (.of hs1)
  have hh := I1.ok.hd hc
  have un := hr.units
  have wl : ws.length = ks.length := by rw [← e2, List.length_map]
  have inks : ∀ p ∈ ws, p.2 ∈ ks := fun p hp => by rw [← e2]; exact List.mem_map.mpr ⟨p, hp, rfl⟩
  refine nset_made hh pl.isList (by simpa using vals_keyed rv) (fun p hp => ⟨nestedIs_of I1 (e3 p hp) rfl, (htk _ (inks p hp)).2⟩) hl (fun p hp => hdin _ (inks p hp)) (by omega) fun h' tk L S sub all hk => PyProof.Rows.args_nil ?_
  have I2 : Inv X pins σ H1 { s1 with heap := h', toks := tk } := I1.kept hk
  have ll : L.length ≤ ds.length := by
    obtain ⟨D0, _, T0⟩ := S.ob
    have := nodup_in T0.nd (m := ds) fun j hj => by
      obtain ⟨p, hp, rfl⟩ := List.mem_map.mp hj
      exact hdin _ (inks p (sub p hp))
    rwa [List.length_map] at this
  have inL : ∀ p ∈ L, evK p.2 ∈ ks.map evK := fun p hp => List.mem_map.mpr ⟨p.2, inks p (sub p hp), rfl⟩
  have inD : ∀ p ∈ L, D (evK p.2) ∈ (ks.map evK).map D := fun p hp => List.mem_map.mpr ⟨_, inL p hp, rfl⟩
  refine nset_sorted (s := { s1 with heap := h', toks := tk }) (R := fun v p => v = .ref p.1 ∧ KeyIs X.K H1 p.2 (.ref p.1)) S hh (by omega) (fun p hp => ⟨rfl, e3 p (sub p hp)⟩) (fun h2 kp p hp => ?_) (fun d hd' d' hd2 => ?_) ?_ (fun p hp => ?_) fun s' p0 out c M k2 g o hp hc2 pM ed => ?_
  · obtain ⟨as, ra⟩ := (Dat.of eh1 (List.all_eq_true.mp hd _ (inL p hp))).reads I2 R1 _ _ (rp_evK (e3 p (sub p hp))) rfl
    exact ⟨as, PyProof.Rows.Reads.keeps kp ra⟩
  · obtain ⟨p, hp, rfl⟩ := List.mem_map.mp hd'
    obtain ⟨p', hp', rfl⟩ := List.mem_map.mp hd2
    exact hal _ (inD p hp) _ (inD p' hp')
  · refine hsk.imp (fun f d hd' => ?_) (fun f d hd' => ?_)
    all_goals
      obtain ⟨p, hp, rfl⟩ := List.mem_map.mp hd'
      exact f _ (inD p hp)
  · have := hdp _ (inL p hp)
    omega
  have kall : ∀ b u, s1.heap.get? b = some u → s'.heap.get? b = some u := fun b u z => k2 b u (hk b u z)
  have hle : s1.heap.objs.size ≤ p0 := by
    obtain ⟨D0, z, _⟩ := S.ob
    exact Nat.le_trans (Nat.le_of_lt (Heap.lt_size z)) hp
  have hn : H1 p0 = none := I1.hok.fresh hle
  generalize hSS : M.mergeSort (W.dataLe false fun p => D (evK p.2)) = SS at ed
  have pS : SS.Perm M := hSS ▸ List.mergeSort_perm _ _
  have lS : SS.length = L.length := pS.length_eq.trans pM.length_eq
  have kS : ∀ p ∈ SS, KeyIs X.K H1 p.2 (.ref p.1) := fun p hp => e3 p (sub p (pM.mem_iff.mp (pS.mem_iff.mp hp)))
  have big : (64 : Nat) ≤ sizeLine := by decide
  have vS : Vals (SS.map fun p => V.ref p.1) out := by
    clear hSS pS lS kS hc2
    induction ed with
    | nil => exact .nil
    | cons h1 _ ih => exact .cons (by rw [h1.1]; rfl) ih
  have rS : RpL X.K X.mw Hd eh1 H1 (SS.map fun p => evK p.2) (SS.map fun p => V.ref p.1) := by
    clear hSS pS lS vS ed
    induction SS with
    | nil => rfl
    | cons p SS ih => exact RpL.cons (rp_evK (kS p (by simp))) (ih fun p' hp' => kS p' (by simp [hp']))
  have J := I1.call' (ch := []) (H' := upd H1 p0 (.lst (SS.map fun p => V.ref p.1))) o (Un.laid kall hle hn) (I1.hok.laid kall hle ⟨by rw [List.length_map]; omega, out, c, vS, hc2⟩) (by rw [g]; exact I1.bare) (fun _ z => nomatch z)
  have hsort : SS.map (fun p => evK p.2) = sortT ((M.map (·.2)).map evK) := by
    have := PySem.W.sort_maps (r := W.dataLe false fun p : Addr × NestedKey => D (evK p.2)) (s := W.dataLe false D) (fun p : Addr × NestedKey => evK p.2) (fun _ _ _ _ => rfl) (l := M)
    rw [hSS] at this
    rw [this, List.map_map]; rfl
  rw [hsort] at rS
  refine ⟨.ref p0, _, J, rfl, ?_⟩
  have st2 : Step eh1 H1 eh1 (upd H1 p0 (.lst (SS.map fun p => V.ref p.1))) := .newF hn
  obtain ⟨D0, _, T⟩ := S.ob
  refine k eh1 _ (.lst _) (.ref p0) (st.trans st2) (R1.newF hn) ⟨p0, _, rfl, upd_same, ⟨R1.fresh hn, R1.notHid hn⟩, rS.step st2⟩ (m1 (M.map (·.2)) ((pM.map _).nodup_iff.mpr T.nd) fun j => ?_)
  rw [(pM.map (·.2)).mem_iff, all j, e2]
end
end VM

/-! VMK24: xs.count(k), xs a list of keys (tuples of ints, texts, None and such), k such a tuple. -/
namespace VM
open PySem PySem.Spec PyProof.Rows L2 PySem.Froz
end VM

/-! VMK25: xs[::-1] to be written. -/
namespace VM
open PySem PySem.Spec PyProof.Rows L2 PySem.Froz
section
variable {X : Cx} {E : XK} {e : Expr} {ma : ME} {pos p1 p2 p3 : Pos}
end
end VM

/-! VMK26: isinstance(t, tuple) of a tuple. -/
namespace VM
open PySem PySem.Spec PyProof.Rows L2
section
variable {X : Cx}
end
end VM

/-! VMK27: lists and dicts lent: within an expression that answers a plain value some explicit lists and dicts are taken as frozen; behind it they are explicit again. -/
namespace VM
open PySem PySem.Spec PyProof.Rows L2
mutual
/-- data that nothing is written to -/
def pln : EV → Bool
  | .non => true
  | .bl _ => true
  | .int _ => true
  | .str _ => true
  | .tup xs => plnL xs
  | _ => false
def plnL : List EV → Bool
  | [] => true
  | x :: xs => pln x && plnL xs
end
section
variable {K : PySem.W.Frag} {mg : MW} {Hd : Addr → Prop} {eh eh' : Eh} {H H' : Hp}
end
section
variable {K : PySem.W.Frag} {mg : MW} {Hd : Addr → Prop} {eh eh' : Eh} {H H' : Hp} (ht : ∀ a xs, SqT K H a xs → SqT K H' a xs)
include ht
end
section
variable {X : Cx} {pins : List (Addr × Obj)} {σ : L2.St} {s : Shared}
end
section
variable {X : Cx} {E : XK} {e : Expr}
end
end VM

/-! VMK28: dicts whose keys are tuples: frozen in their slot, d[k] and len of frozen ones, len, setdefault, get with a default, dict(pairs). -/
namespace VM
open PySem PySem.Spec PyProof.Rows L2 PySem.Froz
/-! ### what a slot holds is frozen -/
def sFzS (i n : Nat) (ms : MS) : MS := fun xc d es eh => ∃ p, es[i]? = some (some (.ref p)) ∧ ms xc d (es.set i (some (fz (fun b => b == p) eh n (.ref p)))) (drE (fun b => b == p) eh)
theorem rs_fzS {X : Cx} {E : XK} {ss : List Stmt} {i n : Nat} {ms : MS} (h : PSs X ss (US X.K X.mw E ms)) : PSs X ss (US X.K X.mw E (sFzS i n ms)) := by
  refine ⟨fun pins s σ H D I ⟨Hd, es, eh, xc, d, R, xo, ⟨p, ei, m⟩, k1, k2, k3, k4⟩ => ?_⟩
  obtain ⟨H', I', st, R', r'⟩ := ghost I R.obj (fun b => b == p) n (.ref p) (.ref p) rfl
  obtain ⟨v, hv, rr⟩ := R.loc i _ ei
  cases rr
  have rl : Rl X.K X.mw Hd (drE (fun b => b == p) eh) H' (es.set i (some (fz (fun b => b == p) eh n (.ref p)))) σ := by
    have := (R.step st R').set (i := i) (x := fz (fun b => b == p) eh n (.ref p)) (v := .ref p) r'
    have e : σ.set i (some (.ref p)) = σ := List.ext_getElem? fun j => by
      rw [List.getElem?_set]
      split
      · rename_i hj; subst hj
        split
        · exact hv.symm
        · rename_i hl; rw [List.getElem?_eq_none (by omega)]
      · rfl
    rwa [e] at this
  exact h.run pins s σ H' D I' ⟨Hd, _, _, xc, d, rl, xo.step st, m, fun es2 eh2 σ2 H2 s3 => k1 es2 eh2 σ2 H2 (st.trans s3), fun eh2 H2 x v s3 => k2 eh2 H2 x v (st.trans s3), fun es2 eh2 σ2 H2 s3 => k3 es2 eh2 σ2 H2 (st.trans s3), fun es2 eh2 σ2 H2 s3 => k4 es2 eh2 σ2 H2 (st.trans s3)⟩
section
variable {X : Cx} {pins : List (Addr × Obj)} {σ : L2.St} {H : Hp} {s : Shared} {Hd : Addr → Prop} {eh : Eh}
/-- a dict with tuple keys, written or frozen: its rows -/
theorem dnE_at (I : Inv X pins σ H s) (R : Rh X.K X.mw Hd eh H) {x : EV} {v : V} {kvs : List (NestedKey × EV)} (r : Rp X.K X.mw Hd eh H x v) (e : (∃ p, x = .ref p ∧ eh p = some (.dN kvs)) ∨ x = .dn kvs) :
    ∃ a xs, v = .ref a ∧ (a == sysModules) = false ∧ xs.length ≤ sizeLine ∧ RowsN X.K X.mw Hd eh H kvs xs ∧ s.heap.DictOfH (nestedKind X.prog X.w) a xs := by
  rcases e with ⟨p, rfl, ep⟩ | rfl
  · cases r
    obtain ⟨xs, h1, h2, h3, rows⟩ := R.dN ep
    exact ⟨p, xs, rfl, h2, h3, rows, dictN_at I h1 rows.out.2.1⟩
  · obtain ⟨a, o, xs, us, rfl, h1, ⟨z1, z2, z3, z4, z5⟩, rn⟩ := r
    have rows : RowsN X.K X.mw Hd eh H kvs xs := .of z3 z4 z5 rn.toL
    obtain ⟨hd, ⟨⟨o', es, ep, ho, hx, hdt, he, hn⟩, _⟩⟩ := (show ObjOk X.prog X.w H s.heap a (.frz o (dictN X.w a xs)) from I.hok a _ h1)
    exact ⟨a, xs, rfl, z1, z2, rows, o', es, ep, ho, hx, hdt, he, fun x hx => ⟨nestedIs_of I (z4 x hx).1 rfl, (z4 x hx).2⟩, hn⟩
end
/-! ### d[k] of a frozen one -/
def oIxDn : EO2 := fun x y eh q => ∃ kvs ks z, x = .dn kvs ∧ keyN y = some (.tup ks) ∧ (NestedKey.tup ks).depth ≤ 8 ∧ getN kvs (.tup ks) = some z ∧ q z eh
section
variable {X : Cx} {E : XK}
theorem ix_Dn {k : Nat} (hr : RoomG k X.A) : IxR X (U2 X.K X.mw oIxDn) := by
  have hu := hr.units
  intro value slice pins s σ H v u a b Q I r1 r2 ⟨Hd, eh, x, y, q, R, rx, ry, ⟨kvs, ks, z, ex, ek, hd, hz, m⟩, k⟩ hs
  subst ex
  obtain ⟨p, xs, rfl, h2, h3, rows, dd⟩ := dnE_at I R rx (.inr rfl)
  cases r1
  obtain ⟨b', rfl⟩ := ref_of_tup ry ek
  cases r2
  have hkey : (nestedKind X.prog X.w).is s.heap (.tup ks) b' := ⟨nestedIs_of I (keyIs_of ry ek) rfl, hd⟩
  have g := rows.get (k := .tup ks)
  rw [hz] at g
  obtain ⟨ka, uu, vv, e1, rv, rz⟩ := g
  have tI := dd.typeIs
  unfold subscriptTail
  refine wpAny_bind ?_
  rw [getitemInPython_of_ne tI.not_modules]
  refine wpAny_bind (wpAny_specialOf tI PySem.F.slot_dict_getitem.lookup ?_)
  have fin : wpAny (model X.prog X.w) X.A (subscripted slice false (.ref p) (.ref b')) (fun r s₃ => wpAny (model X.prog X.w) X.A (letTemporaryGo value (.ref p) r >>= fun _ => pure r) (EP X pins σ Q) X.xe s₃) X.xe s := by
    rw [hs]
    exact wpAny_operating (wpAny_getItem_heap (roomN hu) hkey dd e1 (wpAny_bind (wpAny_letTemporaryGo (wpAny_pure ⟨vv, H, I.tok _, rv, k eh H z vv .refl R rz m⟩))))
  first
    | exact wpAny_pure (wpAny_bind fin)
    | exact wpAny_bind (wpAny_pure (wpAny_bind fin))
    | exact wpAny_bind fin
/-! ### len(d) -/
def bLenN : EOL := fun xs eh q => ∃ x kvs, xs = [x] ∧ ((∃ p, x = .ref p ∧ eh p = some (.dN kvs)) ∨ x = .dn kvs) ∧ q (.int kvs.length) eh
theorem cb_lenN : CallR X (.builtin "len") (UL X.K X.mw bLenN) := by
  intro pins s σ H vs us Q I r h
  obtain ⟨Hd, eh, zs, q, R, rz, ⟨x, kvs, rfl, hx, m⟩, k⟩ := h
  obtain ⟨v, rfl, rx⟩ := one_of rz
  obtain ⟨a, xs, rfl, h2, h3, rows, dd⟩ := dnE_at I R rx hx
  cases r with
  | cons r1 r2 =>
    cases r2
    cases r1
    exact PySem.call_len_dictH h2 dd (by have : sizeLine = 16777216 := rfl; omega) ⟨.int xs.length, H, I.tok _, ⟨_, rfl⟩, k eh H (.int kvs.length) (.int xs.length) .refl R (by rw [rows.length]; rfl) m⟩
/-! ### d.setdefault(k, v) -/
variable {o e f : Expr} {ma mb mc : ME} {apos cpos : Pos}
theorem dN_noDict {s : Shared} {a : Addr} {xs : List (NestedKey × Addr × Value)} (dd : s.heap.DictOfH (nestedKind X.prog X.w) a xs) : ∀ b, Value.ref a = .ref b → ∃ ob, s.heap.get? b = some ob ∧ ob.dict = none := fun b z => by
  cases z
  obtain ⟨o, es, ep, ho, hex, _⟩ := dd
  exact ⟨o, ho, hex.2.1⟩
def mSetdN (ma mb mc : ME) : ME := fun xc es eh q => ma xc es eh fun x eh1 => ∃ p, x = .ref p ∧ (∃ kvs, eh1 p = some (.dN kvs)) ∧ mb xc es eh1 fun y eh2 => mc xc es eh2 fun z eh3 => ∃ kvs ks, eh3 p = some (.dN kvs) ∧ keyN y = some (.tup ks) ∧ (NestedKey.tup ks).depth ≤ 8 ∧ kvs.length < sizeLine ∧
  match getN kvs (.tup ks) with
  | some v => q v eh3
  | none => q z (eupd eh3 p (some (.dN (putN kvs (.tup ks) z))))
theorem re_setdN {k0 : Nat} (hr : RoomG k0 X.A) (ho : PE X o (U X.K X.mw E ma)) (he : PE X e (U X.K X.mw E mb)) (hf : PE X f (U X.K X.mw E mc)) (m2 : M2 X o "setdefault" apos e f cpos := by exact ⟨rfl, rfl, rfl, rfl⟩) :
    PE X (.Call (.Attribute o "setdefault" apos) [e, f] [] cpos) (U X.K X.mw E (mSetdN ma mb mc)) := by
  have hu := hr.units
  refine ⟨fun pins s σ H Q I ⟨Hd, es, eh, xc, q, R, xo, m, k⟩ => ?_⟩
  refine wpAny_Call_method m2.base m2.few m2.line PySem.F.plainAttrs_dict PySem.F.slot_dict_setdefault PySem.F.type_dict_setdefault (thn (ho.run pins s σ H (fun v H1 => ∃ eh1 x, Step eh H eh1 H1 ∧ Rh X.K X.mw Hd eh1 H1 ∧ Rp X.K X.mw Hd eh1 H1 x v ∧ ∃ p, x = .ref p ∧ (∃ kvs, eh1 p = some (.dN kvs)) ∧ mb xc es eh1 fun y eh2 => mc xc es eh2 fun z eh3 => ∃ kvs ks, eh3 p = some (.dN kvs) ∧ keyN y = some (.tup ks) ∧ (NestedKey.tup ks).depth ≤ 8 ∧ kvs.length < sizeLine ∧
      match getN kvs (.tup ks) with
      | some v => q v eh3
      | none => q z (eupd eh3 p (some (.dN (putN kvs (.tup ks) z))))) I
    ⟨Hd, es, eh, xc, _, R, xo, m, fun eh1 H1 x v s1 R1 r1 m1 => ⟨eh1, x, s1, R1, r1, m1⟩⟩) fun u s1 ⟨v, H1, I1, ru, eh1, x, st1, R1, r1, p, ex, ⟨kvs1, e1⟩, m1⟩ => ?_)
  subst ex
  cases r1
  obtain rfl : u = Value.ref p := ru
  obtain ⟨a1, xs1, ea1, _, _, _, dd1⟩ := dnE_at I1 R1 (x := .ref p) (v := .ref p) rfl (.inl ⟨p, rfl, e1⟩)
  cases ea1
  refine ⟨dd1.typeIs, dN_noDict dd1, ?_⟩
  rw [m2.trees]
  have R1' := R.step st1 R1
  refine Calls.callWith_builtin rfl (Calls.evalArgs_plain (Calls.spliced_cons (thn (he.run pins s1 σ H1 (fun w H2 => ∃ eh2 y, Step eh1 H1 eh2 H2 ∧ Rh X.K X.mw Hd eh2 H2 ∧ Rp X.K X.mw Hd eh2 H2 y w ∧ mc xc es eh2 fun z eh3 => ∃ kvs ks, eh3 p = some (.dN kvs) ∧ keyN y = some (.tup ks) ∧ (NestedKey.tup ks).depth ≤ 8 ∧ kvs.length < sizeLine ∧
      match getN kvs (.tup ks) with
      | some v => q v eh3
      | none => q z (eupd eh3 p (some (.dN (putN kvs (.tup ks) z))))) I1
    ⟨Hd, es, eh1, xc, _, R1', xo.step st1, m1, fun eh2 H2 y w s2 R2 r2 m2 => ⟨eh2, y, s2, R2, r2, m2⟩⟩) fun iv s2 ⟨w, H2, I2, rw2, eh2, y, st2, R2, r2, m3⟩ =>
    Calls.spliced_cons (thn (hf.run pins s2 σ H2 (fun w3 H3 => ∃ eh3 z, Step eh2 H2 eh3 H3 ∧ Rh X.K X.mw Hd eh3 H3 ∧ Rp X.K X.mw Hd eh3 H3 z w3 ∧ ∃ kvs ks, eh3 p = some (.dN kvs) ∧ keyN y = some (.tup ks) ∧ (NestedKey.tup ks).depth ≤ 8 ∧ kvs.length < sizeLine ∧
      match getN kvs (.tup ks) with
      | some v => q v eh3
      | none => q z (eupd eh3 p (some (.dN (putN kvs (.tup ks) z))))) I2
    ⟨Hd, es, eh2, xc, _, R1'.step st2 R2, (xo.step st1).step st2, m3, fun eh3 H3 z w s3 R3 r3 m4 => ⟨eh3, z, s3, R3, r3, m4⟩⟩) fun fv s3 ⟨w3, H3, I3, rw3, eh3, z, st3, R3, r3, kvs, ks, e3, ek, hd, hl, m4⟩ => Calls.spliced_nil ?_))))
  have r2' := r2.step st3
  obtain ⟨xs, h1, h2, h3, rows⟩ := R3.dN e3
  obtain ⟨b', rfl⟩ := ref_of_tup r2' ek
  obtain rfl : iv = Value.ref b' := rw2
  have kI := keyIs_of r2' ek
  have hkey : (nestedKind X.prog X.w).is s3.heap (.tup ks) b' := ⟨nestedIs_of I3 kI rfl, hd⟩
  have dd := dictN_at I3 h1 rows.out.2.1
  have g := rows.get (k := .tup ks)
  have stAll := st1.trans (st2.trans st3)
  refine call_setdefault_heap (roomN hu) hkey h2 dd (fun pr hp => ?_) (fun hn h' dd' hs => ?_) h3
  · cases eg : getN kvs (.tup ks) with
    | none => rw [eg] at g; rw [g] at hp; cases hp
    | some v0 =>
      rw [eg] at g m4
      obtain ⟨ka, uu, vv, e1, rv, rz⟩ := g
      rw [e1] at hp
      cases hp
      exact ⟨vv, H3, I3.tok _, rv, k eh3 H3 v0 vv stAll R3 rz m4⟩
  · cases eg : getN kvs (.tup ks) with
    | some v0 => rw [eg] at g; obtain ⟨_, _, _, e1, _⟩ := g; rw [e1] at hn; cases hn
    | none =>
      rw [eg] at m4
      obtain ⟨oq, _, _, hq, _⟩ := id dd'
      have st : Step eh3 H3 (eupd eh3 p (some (.dN (putN kvs (.tup ks) z)))) (upd H3 p (dictN X.w p (storedH xs (.tup ks) b' fv))) := .write R3 e3
      have rows2 := (rows.put kI hd rw3 r3).step st
      exact ⟨w3, _, d_write I3 (by rw [h1]; exact True.intro) hs ⟨oq, hq⟩ (dictN_new dd'), rw3, k _ _ z w3 (stAll.trans st) (.write R3 e3 (rpO_dN upd_same h2 (Nat.le_trans storedH_le (by rw [← rows.length]; exact hl)) rows2)) (r3.step st) m4⟩
/-! ### d.get(k, v) -/
def mGetN (ma mb mc : ME) : ME := fun xc es eh q => ma xc es eh fun x eh1 => (∃ kvs, (∃ p, x = .ref p ∧ eh1 p = some (.dN kvs)) ∨ x = .dn kvs) ∧ mb xc es eh1 fun y eh2 => mc xc es eh2 fun z eh3 => ∃ kvs ks, ((∃ p, x = .ref p ∧ eh3 p = some (.dN kvs)) ∨ x = .dn kvs) ∧ keyN y = some (.tup ks) ∧ (NestedKey.tup ks).depth ≤ 8 ∧
  match getN kvs (.tup ks) with
  | some v => q v eh3
  | none => q z eh3
theorem re_getN {k0 : Nat} (hr : RoomG k0 X.A) (ho : PE X o (U X.K X.mw E ma)) (he : PE X e (U X.K X.mw E mb)) (hf : PE X f (U X.K X.mw E mc)) (m2 : M2 X o "get" apos e f cpos := by exact ⟨rfl, rfl, rfl, rfl⟩) :
    PE X (.Call (.Attribute o "get" apos) [e, f] [] cpos) (U X.K X.mw E (mGetN ma mb mc)) := by
  have hu := hr.units
  refine ⟨fun pins s σ H Q I ⟨Hd, es, eh, xc, q, R, xo, m, k⟩ => ?_⟩
  refine wpAny_Call_method m2.base m2.few m2.line PySem.F.plainAttrs_dict PySem.F.slot_dict_get PySem.F.type_dict_get (thn (ho.run pins s σ H (fun v H1 => ∃ eh1 x, Step eh H eh1 H1 ∧ Rh X.K X.mw Hd eh1 H1 ∧ Rp X.K X.mw Hd eh1 H1 x v ∧ (∃ kvs, (∃ p, x = .ref p ∧ eh1 p = some (.dN kvs)) ∨ x = .dn kvs) ∧ mb xc es eh1 fun y eh2 => mc xc es eh2 fun z eh3 => ∃ kvs ks, ((∃ p, x = .ref p ∧ eh3 p = some (.dN kvs)) ∨ x = .dn kvs) ∧ keyN y = some (.tup ks) ∧ (NestedKey.tup ks).depth ≤ 8 ∧
      match getN kvs (.tup ks) with
      | some v => q v eh3
      | none => q z eh3) I
    ⟨Hd, es, eh, xc, _, R, xo, m, fun eh1 H1 x v s1 R1 r1 m1 => ⟨eh1, x, s1, R1, r1, m1⟩⟩) fun u s1 ⟨v, H1, I1, ru, eh1, x, st1, R1, r1, ⟨kvs1, e1⟩, m1⟩ => ?_)
  obtain ⟨a1, xs1, rfl, hm1, _, _, dd1⟩ := dnE_at I1 R1 r1 e1
  obtain rfl : u = Value.ref a1 := ru
  refine ⟨dd1.typeIs, dN_noDict dd1, ?_⟩
  rw [m2.trees]
  have R1' := R.step st1 R1
  refine wpAny_dict_get2_heap (knd := nestedKind X.prog X.w) (roomN hu) hm1 (thn (he.run _ s1 σ H1 (fun w H2 => ∃ eh2 y, Step eh1 H1 eh2 H2 ∧ Rh X.K X.mw Hd eh2 H2 ∧ Rp X.K X.mw Hd eh2 H2 y w ∧ mc xc es eh2 fun z eh3 => ∃ kvs ks, ((∃ p, x = .ref p ∧ eh3 p = some (.dN kvs)) ∨ x = .dn kvs) ∧ keyN y = some (.tup ks) ∧ (NestedKey.tup ks).depth ≤ 8 ∧
      match getN kvs (.tup ks) with
      | some v => q v eh3
      | none => q z eh3) I1
    ⟨Hd, es, eh1, xc, _, R1', xo.step st1, m1, fun eh2 H2 y w s2 R2 r2 m2 => ⟨eh2, y, s2, R2, r2, m2⟩⟩) fun iv s2 ⟨w, H2, I2, rw2, eh2, y, st2, R2, r2, m3⟩ =>
    thn (hf.run _ s2 σ H2 (fun w3 H3 => ∃ eh3 z, Step eh2 H2 eh3 H3 ∧ Rh X.K X.mw Hd eh3 H3 ∧ Rp X.K X.mw Hd eh3 H3 z w3 ∧ ∃ kvs ks, ((∃ p, x = .ref p ∧ eh3 p = some (.dN kvs)) ∨ x = .dn kvs) ∧ keyN y = some (.tup ks) ∧ (NestedKey.tup ks).depth ≤ 8 ∧
      match getN kvs (.tup ks) with
      | some v => q v eh3
      | none => q z eh3) I2
    ⟨Hd, es, eh2, xc, _, R1'.step st2 R2, (xo.step st1).step st2, m3, fun eh3 H3 z w s3 R3 r3 m4 => ⟨eh3, z, s3, R3, r3, m4⟩⟩) fun fv s3 ⟨w3, H3, I3, rw3, eh3, z, st3, R3, r3, kvs, ks, e3, ek, hd, m4⟩ => ?_)
  have r2' := r2.step st3
  have rx3 := (r1.step st2).step st3
  obtain ⟨a2, xs, ea, h2, h3, rows, dd⟩ := dnE_at I3 R3 rx3 e3
  cases ea
  obtain ⟨b', rfl⟩ := ref_of_tup r2' ek
  obtain rfl : iv = Value.ref b' := rw2
  have kI := keyIs_of r2' ek
  have hkey : (nestedKind X.prog X.w).is s3.heap (.tup ks) b' := ⟨nestedIs_of I3 kI rfl, hd⟩
  have g := rows.get (k := .tup ks)
  have stAll := st1.trans (st2.trans st3)
  refine ⟨b', .tup ks, xs, rfl, hkey, dd, ?_⟩
  cases eg : getN kvs (.tup ks) with
  | none =>
    rw [eg] at g m4
    rw [g]
    exact ⟨w3, H3, I3.tok _, rw3, k eh3 H3 z w3 stAll R3 r3 m4⟩
  | some v0 =>
    rw [eg] at g m4
    obtain ⟨ka, uu, vv, e1, rv, rz⟩ := g
    rw [e1]
    exact ⟨vv, H3, I3.tok _, rv, k eh3 H3 v0 vv stAll R3 rz m4⟩
end
end VM

/-! VMK29: dict(list of pairs) whose keys are tuples. -/
namespace VM
open PySem PySem.Spec PyProof.Rows L2
section
variable {X : Cx} {pins : List (Addr × Obj)} {σ : L2.St} {H : Hp} {s : Shared} {Hd : Addr → Prop} {eh : Eh}
/-- pairs as they stand: the tuples, the rows -/
theorem pair_rows (I : Inv X pins σ H s) : ∀ {ys zs : List EV} {ks : List (List NestedKey)} {vs : List V}, ys.map keyN = ks.map (fun k => some (.tup k)) → (∀ k ∈ ks, (NestedKey.tup k).depth ≤ 8) → ys.length = zs.length →
    RpL X.K X.mw Hd eh H ((ys.zip zs).map fun p => .tup [p.1, p.2]) vs →
    ∃ (ts : List Addr) (ps : List (NestedKey × Addr × Value)), vs = ts.map V.ref ∧ ts.length = ps.length ∧ ps.map (·.1) = ks.map NestedKey.tup ∧ RowsN X.K X.mw Hd eh H ((ks.zip zs).map fun r => (.tup r.1, r.2)) ps ∧
      ∀ (i : Nat) (t : Addr) (p : NestedKey × Addr × Value), ts[i]? = some t → ps[i]? = some p → s.heap.IsTuple t #[.ref p.2.1, p.2.2]
  | [], [], [], _, _, _, _, r => by cases r; exact ⟨[], [], rfl, rfl, rfl, rfl, fun i t p h => by simp at h⟩
  | [], _ :: _, _, _, _, _, h, _ => by simp at h
  | _ :: _, [], _, _, _, _, h, _ => by simp at h
  | [], [], _ :: _, _, h, _, _, _ => by simp at h
  | _ :: _, _ :: _, [], _, h, _, _, _ => by simp at h
  | y :: ys, z :: zs, k :: ks, _, hk, hd, hl, ⟨v, r, e, h1, t1⟩ => by
    subst e
    simp only [List.map_cons, List.cons.injEq] at hk
    obtain ⟨ts, ps, rfl, l1, l2, rows, tp⟩ := pair_rows I hk.2 (fun k' h' => hd k' (by simp [h'])) (by simpa using hl) t1
    obtain ⟨t, ws, rfl, ht, v1, r1, rfl, ry, v2, r2, rfl, rz, rn⟩ := h1
    cases rn
    obtain ⟨b, rfl⟩ := ref_of_tup ry hk.1
    obtain ⟨its, rv, it, _⟩ := I.tuple ht
    cases rv with
    | cons c1 rv => cases rv with
      | cons c2 rv =>
        cases rv
        cases c1
        rename_i u2
        refine ⟨t :: ts, (.tup k, b, u2) :: ps, rfl, by simp [l1], by simp [l2], ⟨b, u2, v2, ps, rfl, keyIs_of ry hk.1, hd k (by simp), c2, rz, rows⟩, fun i t' p h1 h2 => ?_⟩
        cases i with
        | zero => cases h1; cases h2; exact it
        | succ i => exact tp i t' p (by simpa using h1) (by simpa using h2)
end
def bDictPN : EOL := fun xs eh q => ∃ (x : EV) (ys zs : List EV) (ks : List (List NestedKey)), xs = [x] ∧ lstE eh x = some ((ys.zip zs).map fun p => .tup [p.1, p.2]) ∧ ys.map keyN = ks.map (fun k => some (.tup k)) ∧ (∀ k ∈ ks, (NestedKey.tup k).depth ≤ 8) ∧ ks.Nodup ∧ ys.length = zs.length ∧
  ∀ p, eh p = none → q (.ref p) (eupd eh p (some (.dN ((ks.zip zs).map fun r => (.tup r.1, r.2)))))
section
variable {X : Cx}
theorem cb_dictPN {k0 : Nat} (hc : X.calm = true) (hr : RoomG k0 X.A) : CallR X (.type "dict") (UL X.K X.mw bDictPN) := by
  intro pins s σ H vs us Q I r h
  obtain ⟨Hd, eh, xs, q, R, rx, ⟨x, ys, zs, ks, rfl, hx, hkn, hdp, hnd, hl, m⟩, k⟩ := h
  obtain ⟨v, rfl, rv⟩ := one_of rx
  obtain ⟨a, ws, rfl, ha, rr⟩ := lst_of R rv hx
  obtain ⟨ts, ps, rfl, l1, l2, rows, tp⟩ := pair_rows I hkn hdp hl rr
  cases r with
  | cons c1 c2 =>
  cases c2
  cases c1
  obtain ⟨z, its, n, rv, h1⟩ := (show ObjOk X.prog X.w H s.heap a (.lst (ts.map V.ref)) from I.hok a _ ha)
  have hits : its = ts.map Value.ref := by
    have : ∀ {l : List Addr} {us : List Value}, Vals (l.map V.ref) us → us = l.map Value.ref := fun {l} => by
      induction l with
      | nil => intro us h; cases h; rfl
      | cons t l ih => intro us h; cases h with
        | cons h1 h2 => cases h1; rw [ih h2]; rfl
    exact this rv
  have hzp : ps.length ≤ sizeLine := by rw [← l1]; simpa using z
  have hndp : (ps.map (·.1)).Nodup := by
    rw [l2, List.nodup_iff_pairwise_ne, List.pairwise_map]
    exact (List.nodup_iff_pairwise_ne.mp hnd).imp fun h z => h (NestedKey.tup.inj z)
  have gT : ∀ j, j < ps.length → ts[j]? = some (ts.getD j 0) := fun j hj => by rw [List.getD_eq_getElem?_getD, List.getElem?_eq_getElem (by omega)]; rfl
  refine PySem.call_dict_pairsH (knd := nestedKind X.prog X.w) (ps := ps) (PySem.PairArg.list a its.toArray (fun i => ts.getD i 0) (ps.map fun p => (Value.ref p.2.1, p.2.2))) (I.ok.hd hc) ?_ ⟨⟨_, n, h1, rfl, rfl, rfl⟩, ⟨by rw [hits]; simp [l1], fun j k v hj => ?_⟩⟩ ⟨by simp, fun i key v w => ?_⟩ ?_ (by rw [List.length_map]; exact hzp) fun h2 tk dd hk2 => ?_
  · have := hr.units
    show X.A.in1.in1.units + 8 < cLine
    have : X.A.in1.in1.units ≤ X.A.units + 2 := by first | exact Nat.le_refl _ | (show X.A.units + 1 + 1 ≤ X.A.units + 2; exact Nat.le_refl _)
    omega
  · rw [List.getElem?_map] at hj
    cases e : ps[j]? with
    | none => rw [e] at hj; cases hj
    | some p =>
      rw [e] at hj
      cases hj
      have hjl := (List.getElem?_eq_some_iff.mp e).1
      exact ⟨by rw [List.getElem?_toArray, hits, List.getElem?_map, gT j hjl]; rfl, .inl (tp j _ p (gT j hjl) e)⟩
  · have w : (ps.map fun p => (Value.ref p.2.1, p.2.2))[i]? = some (key, v) := w
    rw [List.getElem?_map] at w
    cases e : ps[i]? with
    | none => rw [e] at w; cases w
    | some p => rw [e] at w; cases w; exact ⟨_, _, rfl, rfl⟩
  · intro h' kp x hx
    obtain ⟨c1, c2⟩ := rows.out.2.1 x hx
    exact ⟨NestedIs.at (fun b o _ _ h _ => kp b o (fun z => by have := Heap.lt_size h; rw [z] at this; exact absurd this (Nat.lt_irrefl _)) (by simp) h) _ _ (nestedIs_of I c1 rfl), c2⟩
  rw [storedAllH_nil_of_nodup ps hndp] at dd
  have newS : H s.heap.objs.size = none := I.hok.fresh (Nat.le_refl _)
  have hsys : (s.heap.objs.size == sysModules) = false := beq_eq_false_iff_ne.mpr (Nat.ne_of_gt I.big)
  have st2 : Step eh H (eupd eh s.heap.objs.size (some (.dN ((ks.zip zs).map fun r => (.tup r.1, r.2))))) (upd H s.heap.objs.size (dictN X.w s.heap.objs.size ps)) := .new newS
  refine ⟨.ref s.heap.objs.size, _, I.laid (t' := tk) (fun b o e => hk2 b o (by simp) e) (Nat.le_refl _) (dictN_new dd), rfl, ?_⟩
  exact k _ _ (.ref _) (.ref _) st2 (R.new (eo := .dN _) newS (rpO_dN upd_same hsys hzp (rows.step st2))) rfl (m _ (R.fresh newS))
end
end VM

/-! VMK30: a dict with tuple keys, or None, compared with {}. -/
namespace VM
open PySem PySem.Spec PyProof.Rows L2
section
variable {prog : Program} {w : World} {A : Around} {E : Value → Shared → Prop} {s : Shared}
/-- two dicts one of which has no entry: their sizes decide -/
theorem pairs_size {nm : String} {a b : Addr} {oa ob : Obj} {es es' : Array DictEntry} {ep ep' : Nat} {Q : Bool → Shared → Prop} (ha : (a == sysModules) = false) (hb : (b == sysModules) = false)
    (ga : s.heap.get? a = some oa) (da : oa.data = .dict es ep) (gb : s.heap.get? b = some ob) (db : ob.data = .dict es' ep') (h0 : es.size = 0 ∨ es'.size = 0) (h : Q (decide (es.size = es'.size)) s) :
    wpAny (model prog w) A (Builtin.Dict.samePairs nm a b) Q E s := by
  unfold Builtin.Dict.samePairs Builtin.Dict.showsAll
  simp only [ha, hb, Bool.false_eq_true, if_false]
  refine wpAny_bind (wpAny_pure (wpAny_bind (wpAny_pure (wpAny_bind (wpAny_dictEntries ga da ?_)))))
  refine wpAny_bind (wpAny_dictEntries gb db ?_)
  by_cases e : es.size = es'.size
  · have e1 : es.size = 0 := by omega
    have e2 : es'.size = 0 := by omega
    rw [decide_eq_true e] at h
    simp only [e1, e2, bne_self_eq_false, Bool.false_eq_true, if_false]
    refine wpAny_bind (wpAny_dictEpoch ga da ?_)
    refine wpAny_bind ?_
    rw [Std.Legacy.Range.forIn_eq_forIn_range']
    simp only [Std.Legacy.Range.size, Nat.sub_zero, Nat.add_sub_cancel, Nat.div_one, List.range'_zero, List.forIn_nil]
    exact wpAny_pure (wpAny_pure h)
  · rw [decide_eq_false e] at h
    have : (es.size != es'.size) = true := by simpa using e
    simp only [this, if_true]
    exact wpAny_bind (wpAny_rule (wpAny_pure h))
/-- what the library reads of a dict: its entries -/
def DEnt (s : Shared) (a : Addr) (n : Nat) : Prop := (a == sysModules) = false ∧ ∃ (o : Obj) (es : Array DictEntry) (ep : Nat), s.heap.get? a = some o ∧ o.ExactDict ∧ o.data = .dict es ep ∧ es.size = n
theorem DEnt.ty {a : Addr} {n : Nat} (d : DEnt s a n) : s.TypeIs (.ref a) "dict" := let ⟨_, o, _, _, h, x, _⟩ := d; ⟨o, h, x.1⟩
theorem rc_size {a b : Addr} {n m : Nat} {Q : Value → Shared → Prop} (da : DEnt s a n) (db : DEnt s b m) (h0 : n = 0 ∨ m = 0) (hu : A.units < cLine) (h : Q (.bool (decide (n = m))) s) : wpAny (model prog w) A (richCompare .Eq (.ref a) (.ref b)) Q E s := by
  have ta := da.ty
  have tb := db.ty
  obtain ⟨sa, oa, es, ep, ga, _, ea, za⟩ := da
  obtain ⟨sb, ob, es', ep', gb, _, eb, zb⟩ := db
  subst za zb
  refine wpAny_richCompare_same_room (op := .Eq) ta tb PySem.F.slot_dict_eq (wpAny_call_entry PySem.F.slot_dict_eq ta PySem.F.entry_dict_eq ?_ (PySem.F.args_dict_eq_2 _ _)) hu
  show wpAny _ _ (Builtin.Dict.dictSlotArgs "__eq__" ⟨[.ref a, .ref b], []⟩ >>= _) _ _ s
  unfold Builtin.Dict.dictSlotArgs
  refine wpAny_bind (wpAny_bind (wpAny_notOrdered_dict ta ?_))
  show wpAny _ _ (pure (Value.ref a, Value.ref b)) _ _ s
  refine wpAny_pure (wpAny_bind (wpAny_isInstance (T := "dict") tb PySem.F.sub_dict_dict ?_))
  simp only [Bool.not_true, Bool.false_eq_true, if_false]
  refine wpAny_bind (wpAny_pure (wpAny_bind (wpAny_pure (wpAny_bind (pairs_size sa sb ga ea gb eb h0 (wpAny_pure ⟨_, rfl, (fun x => nomatch x), ?_⟩))))))
  simpa using h
theorem ne_size {a b : Addr} {n m : Nat} {Q : Value → Shared → Prop} (da : DEnt s a n) (db : DEnt s b m) (h0 : n = 0 ∨ m = 0) (hu : A.units < cLine) (h : Q (.bool (!decide (n = m))) s) : wpAny (model prog w) A (compareOp .NotEq (.ref a) (.ref b)) Q E s := by
  have ta := da.ty
  have tb := db.ty
  obtain ⟨sa, oa, es, ep, ga, _, ea, za⟩ := da
  obtain ⟨sb, ob, es', ep', gb, _, eb, zb⟩ := db
  subst za zb
  refine wpAny_richCompare_same_room (op := .NotEq) ta tb PySem.F.slot_dict_ne (wpAny_call_entry PySem.F.slot_dict_ne ta PySem.F.entry_dict_ne ?_ (PySem.F.args_dict_ne_2 _ _)) hu
  show wpAny _ _ (Builtin.Dict.dictSlotArgs "__ne__" ⟨[.ref a, .ref b], []⟩ >>= _) _ _ s
  unfold Builtin.Dict.dictSlotArgs
  refine wpAny_bind (wpAny_bind (wpAny_notOrdered_dict ta ?_))
  show wpAny _ _ (pure (Value.ref a, Value.ref b)) _ _ s
  refine wpAny_pure (wpAny_bind (wpAny_isInstance (T := "dict") tb PySem.F.sub_dict_dict ?_))
  simp only [Bool.not_true, Bool.false_eq_true, if_false]
  refine wpAny_bind (wpAny_pure (wpAny_bind (wpAny_pure (wpAny_bind (pairs_size sa sb ga ea gb eb h0 (wpAny_pure ⟨_, rfl, (fun x => nomatch x), ?_⟩))))))
  simpa using h
theorem dict_no_eq {a : Addr} {n : Nat} {Q : Value → Shared → Prop} (d : DEnt s a n) (h : Q .notImplemented s) : wpAny (model prog w) A (call (.builtin "dict.__eq__") [.ref a, .none]) Q E s := by
  have ta := d.ty
  refine wpAny_call_entry PySem.F.slot_dict_eq ta PySem.F.entry_dict_eq ?_ (PySem.F.args_dict_eq_2 _ _)
  show wpAny _ _ (Builtin.Dict.dictSlotArgs "__eq__" ⟨[.ref a, .none], []⟩ >>= _) _ _ s
  unfold Builtin.Dict.dictSlotArgs
  refine wpAny_bind (wpAny_bind (wpAny_notOrdered_dict ta ?_))
  show wpAny _ _ (pure (Value.ref a, Value.none)) _ _ s
  refine wpAny_pure (wpAny_bind (wpAny_isInstance (T := "NoneType") rfl PySem.F.sub_NoneType_dict ?_))
  simp only [Bool.not_false, if_true]
  exact wpAny_bind (wpAny_rule (wpAny_pure ⟨_, rfl, h⟩))
theorem dict_no_ne {a : Addr} {n : Nat} {Q : Value → Shared → Prop} (d : DEnt s a n) (h : Q .notImplemented s) : wpAny (model prog w) A (call (.builtin "dict.__ne__") [.ref a, .none]) Q E s := by
  have ta := d.ty
  refine wpAny_call_entry PySem.F.slot_dict_ne ta PySem.F.entry_dict_ne ?_ (PySem.F.args_dict_ne_2 _ _)
  show wpAny _ _ (Builtin.Dict.dictSlotArgs "__ne__" ⟨[.ref a, .none], []⟩ >>= _) _ _ s
  unfold Builtin.Dict.dictSlotArgs
  refine wpAny_bind (wpAny_bind (wpAny_notOrdered_dict ta ?_))
  show wpAny _ _ (pure (Value.ref a, Value.none)) _ _ s
  refine wpAny_pure (wpAny_bind (wpAny_isInstance (T := "NoneType") rfl PySem.F.sub_NoneType_dict ?_))
  simp only [Bool.not_false, if_true]
  exact wpAny_bind (wpAny_rule (wpAny_pure ⟨_, rfl, h⟩))
theorem none_eq_dict {a : Addr} {n : Nat} {Q : Value → Shared → Prop} (d : DEnt s a n) (hu : A.units < cLine) (h : Q (.bool false) s) : wpAny (model prog w) A (richCompare .Eq .none (.ref a)) Q E s :=
  PySem.SeqAt.rc_eq_decline_or (k := false) rfl d.ty (by decide) PySem.F.sub_dict_NoneType PySem.F.slot_NoneType_eq PySem.F.slot_dict_eq_refl
    (fun _ hq => call_gives PySem.F.slot_NoneType_eq rfl PySem.F.entry_NoneType_eq (PySem.F.args_NoneType_eq_2 _ _) (PySem.SeqAt.NoneType___eq___none_ref_0 a) hq)
    (fun _ hq => dict_no_eq d hq) (fun _ hq => wpAny_of_eq (rfl : isSame .none (.ref a) = pure false) hq) (.inr hu) h
theorem none_ne_dict {a : Addr} {n : Nat} {Q : Value → Shared → Prop} (d : DEnt s a n) (hu : A.units < cLine) (h : Q (.bool true) s) : wpAny (model prog w) A (richCompare .NotEq .none (.ref a)) Q E s :=
  PySem.SeqAt.rc_ne_decline_or (k := false) rfl d.ty (by decide) PySem.F.sub_dict_NoneType PySem.F.slot_NoneType_ne PySem.F.slot_dict_ne_refl
    (fun _ hq => call_gives PySem.F.slot_NoneType_ne rfl PySem.F.entry_NoneType_ne (PySem.F.args_NoneType_ne_2 _ _) (PySem.SeqAt.NoneType___ne___none_ref_0 a) hq)
    (fun _ hq => dict_no_ne d hq) (fun _ hq => wpAny_of_eq (rfl : isSame .none (.ref a) = pure false) hq) (.inr hu) h
end
/-- the empty dict -/
def emE (eh : Eh) (y : EV) : Prop := dctE eh y = some []
/-- None, or a dict with tuple keys: whether it is {} -/
def dnZ (eh : Eh) (x : EV) (e : Bool) : Prop := ∃ kvs : List (NestedKey × EV), ((∃ p, x = .ref p ∧ eh p = some (.dN kvs)) ∨ x = .dn kvs) ∧ e = decide (kvs.length = 0)
section
variable {X : Cx} {pins : List (Addr × Obj)} {σ : L2.St} {H : Hp} {s : Shared} {Hd : Addr → Prop} {eh : Eh}
theorem em_at (I : Inv X pins σ H s) (R : Rh X.K X.mw Hd eh H) {y : EV} {v : V} (r : Rp X.K X.mw Hd eh H y v) (e : emE eh y) : ∃ a, v = .ref a ∧ DEnt s a 0 := by
  obtain ⟨a, us, rfl, hd, rk⟩ := dct_of R r e
  cases rk
  obtain ⟨_, s1, vs, kv, o, es, ep, h1, h2, h3, _, hp, _⟩ := hd.ok I.hok
  cases kv
  refine ⟨a, rfl, s1, o, es, ep, h1, h2, h3, ?_⟩
  have := hp.length
  rw [Array.length_toList] at this
  exact this
theorem dn_at (I : Inv X pins σ H s) (R : Rh X.K X.mw Hd eh H) {x : EV} {v : V} {e : Bool} (r : Rp X.K X.mw Hd eh H x v) (h : dnZ eh x e) : ∃ a n, v = .ref a ∧ DEnt s a n ∧ e = decide (n = 0) := by
  obtain ⟨kvs, hx, rfl⟩ := h
  obtain ⟨a, xs, rfl, h2, h3, rows, o, es, ep, ho, hex, hdt, he, _⟩ := dnE_at I R r hx
  exact ⟨a, xs.length, rfl, ⟨h2, o, es, ep, ho, hex, hdt, by rw [← Array.length_toList, he, List.length_map]⟩, by rw [rows.length]⟩
end
/-- == {}, != {} -/
def cEqE0 (neg : Bool) : EO2 := fun x y eh q => (∃ e, ((x = .non ∧ e = false) ∨ dnZ eh x e) ∧ emE eh y ∧ q (.bl (neg ^^ e)) eh) ∨ cEq neg x y eh q
section
variable {X : Cx}
theorem op_eqE0 {k : Nat} {neg : Bool} (hr : RoomG k X.A) : OpR X (compareOp (if neg then .NotEq else .Eq)) (U2 X.K X.mw (cEqE0 neg)) := by
  have hu := hr.units
  intro pins s σ H v u a b Q I r1 r2 ⟨Hd, eh, x, y, q, R, rx, ry, m, kk⟩
  rcases m with ⟨e, hx, hy, m⟩ | m
  · obtain ⟨p', rfl, dp'⟩ := em_at I R ry hy
    cases r2
    rcases hx with ⟨ex, rfl⟩ | hx
    · subst ex
      cases rx
      cases r1
      cases neg with
      | false =>
        show wpAny _ _ (compareOp .Eq .none (.ref p')) _ _ _
        exact none_eq_dict dp' (by omega) ⟨.bl _, H, I, rfl, kk eh H (.bl _) (.bl _) .refl R rfl (by simpa using m)⟩
      | true =>
        show wpAny _ _ (compareOp .NotEq .none (.ref p')) _ _ _
        exact none_ne_dict dp' (by omega) ⟨.bl _, H, I, rfl, kk eh H (.bl _) (.bl _) .refl R rfl (by simpa using m)⟩
    · obtain ⟨p, n, rfl, dp, rfl⟩ := dn_at I R rx hx
      cases r1
      cases neg with
      | false =>
        show wpAny _ _ (compareOp .Eq (.ref p) (.ref p')) _ _ _
        exact rc_size dp dp' (.inr rfl) (by omega) ⟨.bl _, H, I, rfl, kk eh H (.bl _) (.bl _) .refl R rfl (by simpa using m)⟩
      | true =>
        show wpAny _ _ (compareOp .NotEq (.ref p) (.ref p')) _ _ _
        exact ne_size dp dp' (.inr rfl) (by omega) ⟨.bl _, H, I, rfl, kk eh H (.bl _) (.bl _) .refl R rfl (by simpa using m)⟩
  · cases neg with
    | false => exact op_eq_any hr pins s σ H v u a b Q I r1 r2 ⟨Hd, eh, x, y, q, R, rx, ry, m, kk⟩
    | true => exact op_ne_any hr pins s σ H v u a b Q I r1 r2 ⟨Hd, eh, x, y, q, R, rx, ry, m, kk⟩
end
end VM

/-! VMK31: dicts with tuple keys: ==, !=, d.clear(), displays of several entries. -/
namespace VM
open PySem PySem.Spec PyProof.Rows L2
section
variable {prog : Program} {w : World} {A : Around} {E : Value → Shared → Prop} {s : Shared}
end
section
variable {X : Cx}
end
/-! ### d.clear() -/
section
variable {X : Cx} {E : XK} {o : Expr} {ma : ME} {apos cpos : Pos}
end
/-! ### displays -/
end VM

/-! VMK32: sorted(d, key=lambda x: (d[x], x[0], x[1])) to be written. -/
namespace VM
open PySem PySem.Spec PyProof.Rows L2
def mSortLR (i : Nat) (ma : ME) : ME := fun xc es eh q => ma xc es eh fun x eh1 => ∃ p L, x = .ref p ∧ eh1 p = some (.dN (L.map rwL)) ∧ es[i]? = some (some (.ref p)) ∧ (∀ r ∈ L, getN (L.map rwL) (kN r) = some (.int r.2.2)) ∧ ∀ o, eh1 o = none → q (.ref o) (eupd eh1 o (some (.lst ((sortL L).map fun r => evK (kN r)))))
section
variable {X : Cx} {E : XK} {e : Expr} {ma : ME}
theorem re_sortLR {k : Nat} {c P : Addr} {x dn : Str} {p p1 p2 p3 p4 p5 p6 p7 p8 p9 pp pl pk pos : Pos} {j0 j1 kt i : Nat} {params : Arguments} {scope : Scope} (hg : Gl X "sorted") (hm : X.mg "sorted" = none) (he : PE X e (U X.K X.mw E ma)) (hr : RoomG k X.A) (hcalm : X.calm = true) (TB : LamX.TabB X.base X.mg c P) (hcode : X.env.code = .ref c)
    (hin : (P, X.env.qual ++ "<lambda>") ∈ tabT X.K) (hu : ∀ p ∈ tabT X.K, p.1 = P → p.2 = X.env.qual ++ "<lambda>") (hdef : defaultsOf params X.env = ([], []))
    (hfo : ∀ y ∈ scope.names, y.2 = .free → y.1 = dn) (hfn : scope.names.lookup dn = some .free) (hcl : X.env.scope.names.lookup dn = some .cell) (hN : X.N[i]? = some dn)
    (hkind : scope.kind = .function) (hco : scope.isCoroutine = false) (hgen : scope.isGenerator = false) (hcell : ∀ y ∈ scope.names, y.2 ≠ .cell) (hx : scope.names.lookup x = some .local) (hdb : (x == ("__debug__" : Str)) = false) (hdd : (dn == ("__debug__" : Str)) = false) (hdc : (dn == ("__classdict__" : Str)) = false)
    (hbind : ∀ (q : Str) (cl : List (Str × Addr)) (pm cv ctv v : Value), bindArgs (PySem.W.kla_fn "<lambda>" q params (lamLB dn x j0 j1 kt p1 p2 p3 p4 p5 p6 p7 p8 p9 pp) scope cl pm cv ctv) ⟨[v], []⟩ = pure [(x, v)])
    (he0 : starEach [e] X.env = (false, eval e X.env) :: starEach [] X.env := by rfl) (he1 : backTo pos (starEach [e] X.env) = (false, eval e X.env) :: backTo pos (starEach [] X.env) := by rfl) (hpl : (backTo pos (starEach [e] X.env)).any (·.1) = false := by rfl) :
    PE X (.Call (.Name "sorted" p) [e] [⟨some "key", .Lambda params (lamLB dn x j0 j1 kt p1 p2 p3 p4 p5 p6 p7 p8 p9 pp) scope pl, pk⟩] pos) (U X.K X.mw E (mSortLR i ma)) := by
  refine ⟨fun pins s σ H Q I h => ?_⟩
  have hfree : ∀ y ∈ scope.names, y.2 = .free → ∃ c, X.env.cells.lookup y.1 = some c := fun y hy ey => by
    rw [hfo y hy ey]; exact I.ok.has _ (.inl hcl)
  refine wpAny_Call_Name_kw (ld_blt (u := .builtin "sorted") I hg hm (by rfl) ?_ (by decide))
  obtain ⟨Hd, es, eh, xc, q, R, xo, m, kk⟩ := h
  refine PyProof.Rows.callWith_kw (PyProof.Rows.args_cons (thn (he.run pins s σ H _ I ⟨Hd, es, eh, xc, _, R, xo, m, fun eh1 H1 x1 v1 s1 R1 r1 m1 => (⟨eh1, x1, s1, R1, r1, m1⟩ : ∃ eh1 x1, Step eh H eh1 H1 ∧ Rh X.K X.mw Hd eh1 H1 ∧ Rp X.K X.mw Hd eh1 H1 x1 v1 ∧
      ∃ p L, x1 = .ref p ∧ eh1 p = some (.dN (L.map rwL)) ∧ es[i]? = some (some (.ref p)) ∧ (∀ r ∈ L, getN (L.map rwL) (kN r) = some (.int r.2.2)) ∧ ∀ o, eh1 o = none → q (.ref o) (eupd eh1 o (some (.lst ((sortL L).map fun r => evK (kN r))))))⟩)
    fun v1 s1 ⟨x1, H1, I1, rr, eh1, y1, t1, R1, r1, pd, L, ey, ep, ei, hget, m1⟩ => PyProof.Rows.args_nil ?_) he0) he1 hpl (by rfl) (by rfl)
  subst ey
  refine PyProof.Rows.kws_cons (LamX.lam_make2 I1 TB hcode hin hu R1.tb hdef hfree fun f c' pm ctv H2 s2 I2 ex2 tb2 hf nf _ hc => PyProof.Rows.kws_nil ?_)
  show wpAny _ _ (call (.builtin "sorted") [v1] [(Str.ofString "key", .ref f)]) _ _ _
  have R2 := extN_rh R1 ex2 tb2
  have t2 := extN_step (eh := eh1) ex2
  cases r1
  cases rr
  -- the cell
  obtain ⟨vσ, hσ, rσ⟩ := R.loc i _ ei
  cases rσ
  obtain ⟨cc, hcc, hcv⟩ : ∃ cc, X.env.cells.lookup dn = some cc ∧ s2.heap.IsCell cc (some (.ref pd)) := by
    obtain ⟨m, _, hl⟩ := I2.loc
    obtain ⟨u, ru, lk⟩ := hl i dn _ hN hσ (.inr (.inl hcl))
    cases ru
    rcases lk with ⟨k', _⟩ | ⟨_, c3, e', z⟩
    · have k' : X.env.scope.names.lookup dn = some .local := k'
      rw [hcl] at k'; cases k'
    · exact ⟨c3, e', z⟩
  have hccl : (cloFrom X.env.cells scope.names []).lookup dn = some cc := by
    have hy : (dn, NameKind.free) ∈ scope.names := PySem.mem_of_lookup hfn
    obtain ⟨c2, h2⟩ := mem_lookup (cloFrom_has (cells := X.env.cells) (acc := []) hy)
    rcases cloFrom_mem (PySem.mem_of_lookup h2) with hm | ⟨_, h3⟩
    · cases hm
    · rw [hcc] at h3
      rw [h2, h3]; rfl
  obtain ⟨rows0, h1, h2, h3, rows⟩ := R2.dN ep
  obtain ⟨⟨o, es0, epp, e1, e2, e3, e4, e5⟩, _⟩ := (show ObjOk X.prog X.w H2 s2.heap pd (dictN X.w pd rows0) from I2.hok pd _ h1)
  have hz : es0.size = rows0.length := by rw [← Array.length_toList, e4, List.length_map]
  obtain ⟨hea, hlen⟩ := rowsL rows
  have hzs : ((rows0.map fun x => V.ref x.2.1).zip L).map (·.2) = L := zip_snd (by rw [List.length_map]; exact hlen)
  have hmem : ∀ b ∈ (rows0.map fun x => V.ref x.2.1).zip L, b.2 ∈ L := fun b hb => (List.of_mem_zip hb).2
  have hzl : ((rows0.map fun x => V.ref x.2.1).zip L).length = rows0.length := by rw [List.length_zip, List.length_map, hlen, Nat.min_self]
  refine src_sorted_key (β := V × TL) (k := fun b => kLD b.2) (R := RL X.K H2) (fun R' f => ?_) hea (AllAlike_kLD _) (Sortable_kLD _) (by rw [hzl]; exact h3) (fun b hb => ?_) (fun v b hR hb h tk hkp => ?_) fun out h' hh tk kp kp2 ho hout ⟨cz, hat⟩ => ?_
  · refine PySem.W.kdu_collect (kdl_raw h2 e2 e3) (I2.ok.hd hcalm) e1 (by omega) fun h' tk acc kp it => ?_
    have ea := keys_come e4 (by rw [Array.length_toList]; exact it.1) fun i v e => it.2 i v (by rw [← Array.getElem?_toList]; exact e)
    rw [ea]
    exact f h' tk kp
  · have hd := kLD_depth b.2
    have := hr.units
    omega
  · obtain ⟨a, rfl, eb, hkey, hdep⟩ := hR
    have g := rows.get (k := kN b.2)
    rw [hget b.2 (hmem b hb)] at g
    obtain ⟨ka, uu, vv, ek, rv, rz⟩ := g
    cases rz
    obtain ⟨tz, rfl⟩ := rv
    exact lamL_call I2 hf hc hkind hco hgen hcell hx hdb hfn hdd hdc (fun v => hbind _ _ _ _ _ v) hccl hcv h1 rows.out.2.1 hkey hdep ek (by have := hr.dp; show X.A.depth < recursionLimit; omega) (by have := hr.r.un; show X.A.units + 1 + 1 + 70 < cLine; omega) hkp
  · generalize hSS : ((rows0.map fun x => V.ref x.2.1).zip L).mergeSort (W.dataLe false fun b => kLD b.2) = SS at hout
    have hperm : SS.Perm ((rows0.map fun x => V.ref x.2.1).zip L) := hSS ▸ List.mergeSort_perm _ _
    have epv := each_valsL hout
    have hL2 : SS.length ≤ sizeLine := by rw [hperm.length_eq, hzl]; exact h3
    have hsort : SS.map (·.2) = sortL L := by
      rw [← hSS, PySem.W.sort_maps (r := W.dataLe false fun b : V × TL => kLD b.2) (s := W.dataLe false kLD) (fun b : V × TL => b.2) (fun _ _ _ _ => rfl), hzs]; rfl
    have hrp : RpL X.K X.mw Hd eh1 H2 ((SS.map fun b => (b.1, evK (kN b.2))).map (·.2)) ((SS.map fun b => (b.1, evK (kN b.2))).map (·.1)) := rpL_of fun b' hb' => by
      obtain ⟨b, hb, rfl⟩ := List.mem_map.mp hb'
      obtain ⟨i', hi'⟩ := mem_get hb
      obtain ⟨u, _, a, rfl, eb, hk, _⟩ := eachIs_get hout i' b hi'
      show Rp _ _ _ _ _ (evK (kN b.2)) b.1
      rw [eb]
      exact rp_evK hk
    rw [List.map_map, List.map_map] at hrp
    have e6 : SS.map ((fun b : V × EV => b.2) ∘ fun b : V × TL => (b.1, evK (kN b.2))) = (sortL L).map fun r => evK (kN r) := by rw [← hsort, List.map_map]; rfl
    rw [e6] at hrp
    have I3 : Inv X pins σ H2 { s2 with heap := h', toks := tk } := I2.kept kp
    have n2 : H2 h'.objs.size = none := I3.hok.fresh (Nat.le_refl _)
    refine ⟨.ref _, upd H2 h'.objs.size (.lst (SS.map (·.1))), I3.laid (h' := hh) (t' := tk) kp2 (Nat.le_refl _) ⟨by rw [List.length_map]; exact hL2, out, cz, epv, by simpa using hat⟩, rfl, ?_⟩
    have st : Step eh1 H2 (eupd eh1 h'.objs.size (some (.lst ((sortL L).map fun r => evK (kN r))))) (upd H2 h'.objs.size (.lst (SS.map (·.1)))) := .new n2
    exact kk _ _ (.ref _) (.ref _) ((t1.trans t2).trans st) (R2.new (eo := .lst ((sortL L).map fun r => evK (kN r))) n2 ⟨_, upd_same, hrp.step st⟩) rfl (m1 _ (R2.fresh n2))
end
end VM

/-! VMA: the head's facts: defs, classes, properties' getters, tables of the defs that make lambdas. -/
namespace VM
open PySem PySem.Spec PyProof.Rows L2
def prA (K : PySem.W.Frag) (C f : Str) : Addr := He.ma K (He.ga K C) f
def geA (K : PySem.W.Frag) (C f : Str) : Addr := match PySem.W.recIn K (prA K C f) "property" with
  | some (.ref g :: _) => g
  | _ => 0
def fnA (K : PySem.W.Frag) (a : Addr) : He.FnW := match K.lookup a with
  | some ⟨_, _, .func fd, _⟩ => some (fd.name, fd.qualname, fd.params, fd.body, fd.scope, fd.globals, fd.closure, fd.builtins)
  | _ => none
/-- a property's getter: class, name, the def -/
structure GetD where
  C : Str
  f : Str
  qual : Str
  params : Arguments
  body : List Stmt
  scope : Scope
def GetD.val (d : GetD) : He.FnW := some (d.f, d.qual, d.params, .stmts d.body, d.scope, mainGlobals, [], builtinsNs)
def GetD.ok (K : PySem.W.Frag) (d : GetD) : Bool := He.eqO (PySem.W.findIn K (.ref (He.ga K d.C)) d.f) (some (some (.ref (prA K d.C d.f)))) && (He.eqO (PySem.W.specialIn K (.ref (prA K d.C d.f)) "__get__") (some (some (.builtin "property.__get__"))) &&
  (decide (PySem.W.takesIn K (.ref (prA K d.C d.f)) = some true) && ((match PySem.W.recIn K (prA K d.C d.f) "property" with | some (.ref _ :: _) => true | _ => false) && (PySem.W.keepIn K (.ref (geA K d.C d.f)) &&
  (match K.lookup (geA K d.C d.f) with
    | some ⟨_, _, .func fd, _⟩ => PySem.W.codeIn K fd.code d.qual && (He.dflB K fd.defaults [] && He.kwdB K fd.kwdefaults [])
    | _ => false)))))
theorem GetD.prop {K : PySem.W.Frag} {d : GetD} (c : d.ok K = true) : PropOf K (He.ga K d.C) d.f (prA K d.C d.f) (geA K d.C d.f) := by
  obtain ⟨c1, c⟩ := He.ba c
  obtain ⟨c2, c⟩ := He.ba c
  obtain ⟨c3, c⟩ := He.ba c
  obtain ⟨c4, _⟩ := He.ba c
  refine ⟨He.eqO_ok c1, He.eqO_ok c2, of_decide_eq_true c3, ?_⟩
  unfold geA
  cases e : PySem.W.recIn K (prA K d.C d.f) "property" with
  | none => rw [e] at c4; cases c4
  | some l =>
    rw [e] at c4
    cases l with
    | nil => cases c4
    | cons v r => cases v with
      | ref g => exact ⟨r, rfl⟩
      | _ => cases c4
theorem GetD.funD {K : PySem.W.Frag} {d : GetD} (e : fnA K (geA K d.C d.f) = d.val) (c : d.ok K = true) : ∃ fd, FunD K d.f d.qual d.params d.body d.scope [] [] (geA K d.C d.f) fd := by
  obtain ⟨_, c⟩ := He.ba c
  obtain ⟨_, c⟩ := He.ba c
  obtain ⟨_, c⟩ := He.ba c
  obtain ⟨_, c⟩ := He.ba c
  obtain ⟨kp, c⟩ := He.ba c
  unfold fnA at e
  cases q : K.lookup (geA K d.C d.f) with
  | none => rw [q] at c; cases c
  | some o =>
    obtain ⟨oc, od, dt, osl⟩ := o
    rw [q] at c e
    cases dt with
    | func fd =>
      obtain ⟨n1, n2, n3, n4, n5, n6, n7, n8, n9, n10, n11, n12, n13, n14, n15⟩ := fd
      unfold GetD.val at e
      simp only [Option.some.injEq, Prod.mk.injEq] at e
      obtain ⟨h1, h2, h3, h4, h5, h6, h7, h8⟩ := e
      subst h1 h2 h3 h4 h5 h6 h7 h8
      obtain ⟨k1, k2⟩ := He.ba c
      obtain ⟨k3, k4⟩ := He.ba k2
      exact ⟨_, ⟨oc, od, n8, n9, n10, n11, n12, n13, n14, osl, rfl, q, k1, He.dflB_ok k3, He.kwdB_ok k4⟩, kp⟩
    | _ => cases c
/-! ### the error classes -/
/-- D: the class with the own __init__ (its def's texts); es: it and its classes; file: the program's file -/
structure ErrD where
  D : Str
  es : List Str
  qual : Str
  params : Arguments
  body : List Stmt
  scope : Scope
  file : Str
def fileOf (vs : Array Value) : Option Str := match (vs[(2 : Nat)]? : Option Value) with
  | some (.str z _) => some z
  | _ => none
theorem fileOf_ok {vs : Array Value} {z : Str} (h : fileOf vs = some z) : ∃ tf, vs[2]? = some (.str z tf) := by
  unfold fileOf at h
  split at h
  · rename_i e; cases h; exact ⟨_, e⟩
  · cases h
abbrev FnC : Type := Option (Str × Str × Arguments × FuncBody × Scope × Addr × List Str × Addr)
def ErrD.at_ (d : ErrD) (K : PySem.W.Frag) : Addr := He.ma K (He.ga K d.D) "__init__"
def ErrD.seen (d : ErrD) (K : PySem.W.Frag) : FnC := match K.lookup (d.at_ K) with
  | some ⟨_, _, .func fd, _⟩ => some (fd.name, fd.qualname, fd.params, fd.body, fd.scope, fd.globals, fd.closure.map (·.1), fd.builtins)
  | _ => none
def ErrD.val (d : ErrD) : FnC := some ("__init__", d.qual, d.params, .stmts d.body, d.scope, mainGlobals, ["__class__"], builtinsNs)
def ErrD.fnB (d : ErrD) (K : PySem.W.Frag) : Bool := match K.lookup (d.at_ K) with
  | some ⟨_, _, .func fd, _⟩ => (match fd.defaults with | .none => true | _ => false) && (PySem.W.codeIn K fd.code d.qual && ((match fd.code with
      | .ref c => (match K.lookup c with
        | some ⟨_, _, .fields vs, _⟩ => decide (fileOf vs = some d.file)
        | _ => false)
      | _ => false) && (match fd.closure with
      | [(_, c)] => (match K.lookup c with
        | some ⟨_, _, .cell (some (.ref D)), _⟩ => D == He.ga K d.D
        | _ => false)
      | _ => false)))
  | _ => false
def ErrD.ok (d : ErrD) (K : PySem.W.Frag) : Bool := d.fnB K && ((PySem.W.clsIn K (He.ga K d.D)).isSome && (decide (PySem.W.typeIn K (.ref (d.at_ K)) = some (.type "function")) && (He.eqO (PySem.W.nsIn K mainGlobals "super") (some none) &&
  d.es.all fun x => He.eqO (PySem.W.nsIn K mainGlobals x) (some (some (.ref (He.ga K x)))) && (sclsB K (He.ga K x) (He.ga K d.D) && (He.eqO (PySem.W.findIn K (.ref (He.ga K x)) "__init__") (some (some (.ref (d.at_ K)))) &&
    d.es.all fun y => decide (PySem.W.kitOne K (.ref (He.ga K x)) (.ref (He.ga K y)) = some (isX x y)) && decide (PySem.W.exmOne K (.ref (He.ga K x)) (.ref (He.ga K y)) = some (isX x y)))))))
/-- what the texts themselves say -/
structure ErrS (d : ErrD) (P : Program) : Prop where
  file : P.main.file = d.file
  top : (P.main.scope.names.lookup ("super" : Str)).isSome = false
  ar : ∃ ar : Arg, (d.params.posonlyargs ++ d.params.args).head? = some ar ∧ ar.arg = "self"
  ks : d.scope.names.lookup ("super" : Str) = some .globalImplicit
  kc : d.scope.names.lookup ("__class__" : Str) = some .free
  k1 : d.scope.names.lookup ("self" : Str) = some .local
  k2 : d.scope.names.lookup ("value" : Str) = some .local
  cell : ∀ x ∈ d.scope.names, x.2 ≠ .cell
  co : d.scope.isCoroutine = false
  gen : d.scope.isGenerator = false
  kind : d.scope.kind = .function
  bd : InitForm d.qual d.body d.scope
  bind : ∀ (kV doc pm ct : Value) (an : Option Addr) (cda cc : Addr), SBind (PySem.W.ksFn "__init__" d.qual d.params d.body d.scope .none kV doc pm an (.ref cda) ct cc)
theorem ErrD.init {K : PySem.W.Frag} {P : Program} {mg : Str → Option Value} {d : ErrD} (S : ErrS d P) (e : d.seen K = d.val) (c : d.fnB K = true) (hD : (PySem.W.clsIn K (He.ga K d.D)).isSome = true) (hs : mg "super" = none) :
    ∃ fd qual params body scope, SInit K P mg (d.at_ K) fd (He.ga K d.D) qual params body scope ∧ SBind fd := by
  obtain ⟨cdD, hD⟩ := Option.isSome_iff_exists.mp hD
  obtain ⟨ar, ha1, ha2⟩ := S.ar
  unfold ErrD.seen at e
  unfold ErrD.fnB at c
  cases q : K.lookup (d.at_ K) with
  | none => rw [q] at c; cases c
  | some o =>
    obtain ⟨oc, od, dt, osl⟩ := o
    rw [q] at c e
    cases dt with
    | func fd =>
      obtain ⟨n1, n2, n3, n4, n5, n6, n7, n8, n9, n10, n11, n12, n13, n14, n15⟩ := fd
      unfold ErrD.val at e
      simp only [Option.some.injEq, Prod.mk.injEq] at e
      obtain ⟨h1, h2, h3, h4, h5, h6, h7, h8⟩ := e
      dsimp only at c
      obtain ⟨c1, c⟩ := He.ba c
      obtain ⟨c2, c⟩ := He.ba c
      obtain ⟨c3, c4⟩ := He.ba c
      have dn : n8 = .none := by cases n8 <;> first | rfl | cases c1
      obtain ⟨cda, hcda⟩ : ∃ c, n13 = Value.ref c := by cases n13 <;> first | exact ⟨_, rfl⟩ | cases c3
      subst hcda
      dsimp only at c3
      split at c3 <;> try cases c3
      rename_i vs _ lkc
      obtain ⟨tf, hvs⟩ := fileOf_ok (of_decide_eq_true c3)
      obtain ⟨cc, hcl⟩ : ∃ cc, n7 = [(("__class__" : Str), cc)] := by
        match n7, h7 with
        | [(y, z)], h7 =>
          have : y = "__class__" := by simpa using h7
          exact ⟨z, by rw [this]⟩
      subst hcl
      dsimp only at c4
      split at c4 <;> try cases c4
      rename_i Dv _ lkcell
      have hDv : Dv = He.ga K d.D := by simpa using c4
      subst h1 h2 h3 h4 h5 h6 h8 dn hDv
      rw [← S.file] at hvs
      exact ⟨_, d.qual, d.params, d.body, d.scope, ⟨⟨oc, _, _, od, _, _, .none, n9, n10, n11, _, _, osl, _, _, cc, cda, vs, tf, ar, cdD, rfl, q, c2, lkc, hvs, lkcell, hD, ha1, ha2⟩, S.top, hs, S.ks, S.kc, S.k1, S.k2, S.cell, S.co, S.gen, S.kind, S.bd⟩, S.bind _ _ _ _ _ _ _⟩
    | _ => cases c
/-! ### the Hook -/
abbrev AlP : Type := He.AlX × List He.FnW × List FnC × Bool
def stB (g : Addr → Option Obj) : Bool := match g cStatics with
  | some o => decide (PySem.W.nsIn [(cStatics, o)] cStatics "thirdparty.any" = some none)
  | none => false
/-- a class with an own __eq__ is as != by it needs -/
def nbB (K : PySem.W.Frag) (x : Str) : Bool :=
  match PySem.W.findIn K (.ref (He.ga K x)) "__eq__" with
  | some (some (.ref _)) => isNB K (He.ga K x)
  | _ => true
/-- no address twice -/
def nodB : List Addr → Bool
  | [] => true
  | a :: l => (l.all fun b => Nat.beq a b == false) && nodB l
/-- the tables of the defs with a lambda are apart -/
def tabsB (K : PySem.W.Frag) : Bool := nodB (tfs.map fun p => (He.cT K p.1).2)
def exP (gs : List GetD) (rs : List ErrD) (K : PySem.W.Frag) : Bool := ((gs.all fun d => d.ok K) && ((xcs.all fun x => isCB K x && nbB K x) && rs.all fun d => d.ok K)) && tabsB K
def obsP (n : Nat) (fa : List He.Fa) (fn : List He.DefD) (gs : List GetD) (rs : List ErrD) (tf : List He.Defn) (g : Addr → Option Obj) : AlP :=
  (He.obsX n fa fn [] tf (exP gs rs) g, gs.map (fun d => fnA (He.frT g (He.asD g n)) (geA (He.frT g (He.asD g n)) d.C d.f)), rs.map (fun d => d.seen (He.frT g (He.asD g n))), rs.isEmpty || stB g)
theorem stB_ok {h : Heap} (e : stB h.get? = true) : StO h := by
  unfold stB at e
  split at e
  · rename_i o q; exact ⟨o, q, of_decide_eq_true e⟩
  · cases e
structure SaysP (fa : List He.Fa) (fn : List He.DefD) (gs : List GetD) (rs : List ErrD) (tf : List He.Defn) (w : World) (h : Heap) (K : PySem.W.Frag) : Prop where
  x : He.SaysX fa fn [] tf (exP gs rs) w h K
  g : gs.map (fun d => fnA K (geA K d.C d.f)) = gs.map GetD.val
  r : rs.map (fun d => d.seen K) = rs.map ErrD.val
  s : rs ≠ [] → StO h
def hookP (n : Nat) (fa : List He.Fa) (fn : List He.DefD) (gs : List GetD) (rs : List ErrD) (tf : List He.Defn) : PySem.W.Hook where
  α := AlP
  obs := fun s => obsP n fa fn gs rs tf s.heap.get?
  val := fun w => (He.valX fn [] w, gs.map GetD.val, rs.map ErrD.val, true)
  says := fun w h => ∃ K : PySem.W.Frag, K.In h ∧ SaysP fa fn gs rs tf w h K
  of := fun _ _ e => ⟨_, He.frT_in, He.saysX_of (congrArg (fun z : AlP => z.1) e), congrArg (fun z : AlP => z.2.1) e, congrArg (fun z : AlP => z.2.2.1) e, fun hr => stB_ok (by
    have z : (rs.isEmpty || stB _) = true := congrArg (fun z : AlP => z.2.2.2) e
    cases rs with
    | nil => exact absurd rfl hr
    | cons a l => exact z)⟩
  keeps := fun _ _ _ ⟨K, hK, c⟩ k => ⟨K, PySem.W.Frag.In.keeps hK k, ⟨⟨c.x.t, c.x.more, c.x.hd, c.x.out, fun p hp => k _ _ (c.x.empty p hp)⟩, c.g, c.r, fun hr => (c.s hr).keeps k⟩⟩
theorem obsP_eq {n : Nat} {fa : List He.Fa} {fn : List He.DefD} {gs : List GetD} {rs : List ErrD} {tf : List He.Defn} {g : Addr → Option Obj} {s : Shared} (h : ∀ a, g a = s.heap.get? a) : obsP n fa fn gs rs tf g = (hookP n fa fn gs rs tf).obs s := by
  have e : g = s.heap.get? := funext h
  rw [e]; rfl
/-- what the walks lean on -/
structure Wd (fa : List He.Fa) (fn : List He.DefD) (gs : List GetD) (rs : List ErrD) (K : PySem.W.Frag) (mg : Str → Option Value) (base : Heap) : Prop where
  X : ∃ h : Heap, K.In h ∧ h.Ns mainGlobals mg
  c : He.SaysD fa fn K
  g : gs.map (fun d => fnA K (geA K d.C d.f)) = gs.map GetD.val
  r : rs.map (fun d => d.seen K) = rs.map ErrD.val
  st : rs ≠ [] → StO base
  go : exP gs rs K = true
  tb : ∀ p ∈ tfs.map (·.1), LamX.TabB base mg (He.cT K p).1 (He.cT K p).2
section
variable {fa : List He.Fa} {fn : List He.DefD} {gs : List GetD} {rs : List ErrD} {K : PySem.W.Frag} {mg : Str → Option Value} {base : Heap}
theorem Wd.glo (W : Wd fa fn gs rs K mg base) (i : Nat) {x : Str} (h : fa[i]? = some (.glo x) := by rfl) : mg x = some (.ref (He.ga K x)) := by
  obtain ⟨h', a, b⟩ := W.X
  exact He.glo_ok a b (W.c.fact i h)
theorem Wd.free (W : Wd fa fn gs rs K mg base) (i : Nat) {x : Str} (h : fa[i]? = some (.free x) := by rfl) : mg x = none := by
  obtain ⟨h', a, b⟩ := W.X
  exact He.free_ok a b (W.c.fact i h)
theorem Wd.int (W : Wd fa fn gs rs K mg base) (i : Nat) {x : Str} {n : Int} (h : fa[i]? = some (.int x n) := by rfl) : ∃ t, mg x = some (.int n t) := by
  obtain ⟨h', a, b⟩ := W.X
  exact He.int_ok a b (W.c.fact i h)
theorem Wd.str (W : Wd fa fn gs rs K mg base) (i : Nat) {x z : Str} (h : fa[i]? = some (.str x z) := by rfl) : ∃ t, mg x = some (.str z t) := by
  obtain ⟨h', a, b⟩ := W.X
  exact He.str_ok a b (W.c.fact i h)
theorem Wd.cls (W : Wd fa fn gs rs K mg base) (i : Nat) {x : Str} (h : fa[i]? = some (.cls x) := by rfl) : Cls K (He.ga K x) := He.cls_ok (W.c.fact i h)
theorem Wd.noat (W : Wd fa fn gs rs K mg base) (i : Nat) {x f : Str} (h : fa[i]? = some (.noat x f) := by rfl) : NoAttr K (He.ga K x) f := He.noat_ok (W.c.fact i h)
theorem Wd.mkr (W : Wd fa fn gs rs K mg base) (i : Nat) {x : Str} (h : fa[i]? = some (.mkr x) := by rfl) : Mk K (He.ga K x) (He.ma K (He.ga K x) "__init__") := He.mkr_ok (W.c.fact i h)
theorem Wd.get (W : Wd fa fn gs rs K mg base) (i : Nat) {d : GetD} (h : gs[i]? = some d := by rfl) : PropOf K (He.ga K d.C) d.f (prA K d.C d.f) (geA K d.C d.f) ∧ ∃ fd, FunD K d.f d.qual d.params d.body d.scope [] [] (geA K d.C d.f) fd := by
  have ok : d.ok K = true := List.all_eq_true.mp (He.ba (He.ba W.go).1).1 d (List.mem_of_getElem? h)
  have e : (gs.map fun d => fnA K (geA K d.C d.f))[i]? = (gs.map GetD.val)[i]? := by rw [W.g]
  rw [List.getElem?_map, List.getElem?_map, h] at e
  exact ⟨GetD.prop ok, GetD.funD (Option.some.inj e) ok⟩
end
/-- a def that makes lambdas: its code object is known -/
theorem fn_ok0L {P : Program} {w : World} {K : PySem.W.Frag} {mg : Str → Option Value} {base : Heap} {x qual : Str} {params : Arguments} {body : List Stmt} {scope : Scope} {dvs : List V} {kws : List (Str × V)} {at_ : Str × Option Str} {fd : FuncData} {N ps : List Str} {k : Nat} {ms : MS}
    (F : FunD K x qual params body scope dvs kws (He.fAd K at_) fd) (S : FnScope N ps scope)
    (h : ∀ (A : Around) (outer : List Env) (s : Shared) (H : Hp) (E : XK), RoomG k (A.deeper (envOfC qual scope s.heap.objs.size (He.fAd K at_) (.ref (He.cT K at_).1))) → PSs (cxOf CX0 P w K mg base N qual scope (He.fAd K at_) (.ref (He.cT K at_).1) A outer s H E).nox body (US K ⟨mg, w⟩ E ms)) :
    FnG P w K mg base CX0 (k + 1) (He.fAd K at_) fd ps (spOf K ⟨mg, w⟩ ps.length (fnOf N.length ms)) := by
  refine .of F S (fun vs H Q E h => h.choose_spec.choose_spec.choose_spec.choose_spec.choose_spec.1) fun cdv A outer s H vs Q E ⟨oc, od, osl, lk, ec, hcd⟩ hr hsp => ?_
  have hcv : ∃ c, cdv = .ref c := by
    unfold PySem.W.codeIn at hcd
    cases cdv with
    | ref c => exact ⟨c, rfl⟩
    | _ => cases hcd
  obtain ⟨c, rfl⟩ := hcv
  have hc : (He.cT K at_).1 = c := He.codeOf_eq lk ec
  rw [← hc] at hr ⊢
  exact ⟨_, (h A outer s H E hr).nox, sp_start hsp⟩
end VM

/-! VMB: keyword binding by places; statements of a class. -/
namespace VM
open PySem PySem.Spec PyProof.Rows L2
def clB : Stmt → List Stmt
  | .ClassDef (body := b) .. => b
  | _ => []
/-- the values in the parameters' order: inl i: the i-th positional one, inr j: the j-th keyword's -/
def prm {α : Type} (d : α) (is : List (Nat ⊕ Nat)) (us ws : List α) : List α := is.map fun i => match i with
  | .inl i => us.getD i d
  | .inr j => ws.getD j d
theorem Vals.getD {vs : List V} {us : List Value} (r : Vals vs us) (i : Nat) : RelV (vs.getD i .non) (us.getD i .none) := by
  rw [List.getD_eq_getElem?_getD, List.getD_eq_getElem?_getD]
  cases e : vs[i]? with
  | some v => obtain ⟨u, hu, q⟩ := r.get e; rw [hu]; exact q
  | none =>
    have : us[i]? = none := by rw [List.getElem?_eq_none_iff] at e ⊢; rw [← r.length]; exact e
    rw [this]; rfl
theorem RpL.getD {K mg Hd eh H} {xs : List EV} {vs : List V} (r : RpL K mg Hd eh H xs vs) (i : Nat) : Rp K mg Hd eh H (xs.getD i .non) (vs.getD i .non) := by
  rw [List.getD_eq_getElem?_getD, List.getD_eq_getElem?_getD]
  cases e : xs[i]? with
  | some v => obtain ⟨u, hu, q⟩ := r.get e; rw [hu]; exact q
  | none =>
    have : vs[i]? = none := by rw [List.getElem?_eq_none_iff] at e ⊢; rw [← r.length]; exact e
    rw [this]; rfl
theorem prm_rel (is : List (Nat ⊕ Nat)) {vs : List V} {us : List Value} {zs : List V} {ws : List Value} (r : Vals vs us) (r' : Vals zs ws) : Vals (prm .non is vs zs) (prm .none is us ws) := by
  induction is with
  | nil => exact .nil
  | cons i is ih =>
    cases i with
    | inl j => exact .cons (Vals.getD r j) ih
    | inr j => exact .cons (Vals.getD r' j) ih
theorem prm_ok {K mg} (is : List (Nat ⊕ Nat)) : GOk K mg (prm .non is) (prm .non is) := ⟨fun {Hd eh H xs zs vs ws} r r' => by
  induction is with
  | nil => exact .nil
  | cons i is ih =>
    cases i with
    | inl j => exact RpL.cons (RpL.getD r j) ih
    | inr j => exact RpL.cons (RpL.getD r' j) ih⟩
theorem kbn_of {K : PySem.W.Frag} {x qual : Str} {params : Arguments} {body : List Stmt} {scope : Scope} {f : Addr} {fd : FuncData} {ps ks : List Str} {n : Nat} (is : List (Nat ⊕ Nat)) (F : FunD K x qual params body scope [] [] f fd)
    (h : ∀ (kV doc pm : Value) (an : Option Addr) (cdv ct : Value) (us ws : List Value), us.length = n → ws.length = ks.length → bindArgs (PySem.W.fnOf x qual params body scope .none kV doc pm an cdv ct) ⟨us, ks.zip ws⟩ = pure (ps.zip (prm .none is us ws))) :
    KBn K fd ps n ks (prm .none is) (prm .non is) := by
  obtain ⟨oc, od, dV, kV, doc, pm, an, cdv, ct, osl, rfl, lk, hcd, hD, hK⟩ := F.ex
  rcases hD with ⟨_, rfl⟩ | ⟨e, _⟩
  · exact ⟨fun s us ws _ l1 l2 => .of_eq (h kV doc pm an cdv ct us ws l1 l2), fun r r' => prm_rel is r r'⟩
  · exact absurd rfl e
end VM
namespace VM
open PySem PySem.Spec PyProof.Rows L2
theorem nodB_at : ∀ {l : List Addr} {i j : Nat} {a : Addr}, nodB l = true → l[i]? = some a → l[j]? = some a → i = j
  | [], i, _, _, _, h, _ => by simp at h
  | b :: l, i, j, a, h, hi, hj => by
    have h1 := (He.ba h).1
    have h2 := (He.ba h).2
    have ne : ∀ {k : Nat}, l[k]? = some a → b = a → False := fun hk e => by
      have := List.all_eq_true.mp h1 a (List.mem_of_getElem? hk)
      subst e
      simp at this
    cases i with
    | zero =>
      cases j with
      | zero => rfl
      | succ j => exact (ne (by simpa using hj) (by simpa using hi)).elim
    | succ i =>
      cases j with
      | zero => exact (ne (by simpa using hi) (by simpa using hj)).elim
      | succ j => exact congrArg (· + 1) (nodB_at (a := a) h2 (by simpa using hi) (by simpa using hj))
section
variable {fa : List He.Fa} {fn : List He.DefD} {gs : List GetD} {rs : List ErrD} {K : PySem.W.Frag} {mg : Str → Option Value} {base : Heap}
theorem tab_uniq (W : Wd fa fn gs rs K mg base) {i : Nat} {P : Addr} {q : Str} (h : (tabT K)[i]? = some (P, q)) : ∀ p ∈ tabT K, p.1 = P → p.2 = q := fun p hp e => by
  have nd : nodB ((tabT K).map (·.1)) = true := by
    have := (He.ba W.go).2
    unfold tabsB at this
    unfold tabT
    rw [List.map_map]; exact this
  obtain ⟨j, hj, e2⟩ := List.getElem_of_mem hp
  have hj2 : (tabT K)[j]? = some p := by rw [List.getElem?_eq_getElem hj, e2]
  have := nodB_at (a := P) nd (i := i) (j := j) (by rw [List.getElem?_map, h]; rfl) (by rw [List.getElem?_map, hj2]; show some p.1 = _; rw [e])
  rw [this, hj2] at h
  rw [Option.some.inj h]
end
end VM

/-! VMC: the end: what is left of the law is a fact about a pure function. -/
namespace VM
open PySem PySem.Spec PyProof.Rows L2
/-- what is seen of the start: the script (unless K holds it) and the tables of code objects -/
def startH (K : PySem.W.Frag) (T : List Addr) (a : Addr) (o : Obj) (vs : List V) : Hp := fun b =>
  if b ∈ T then some (.tbl #[]) else if b = a then (if (K.lookup a).isSome then none else some (.frz o (.lst vs))) else none
section
variable {P : Program} {w : World} {K : PySem.W.Frag} {mg mb : Str → Option Value} {k : Nat} {fa a : Addr} {cs : List (Addr × Addr)} {fd : FuncData} {x : Str} {sp : Sp} {s : Shared} {vs : List Value} {ns : List Int}
/-- the law's def is called at the script: from a promise that knows that no repr is under way -/
theorem start_call (kin : K.In s.heap) (gm : s.heap.Ns mainGlobals mg) (gb : s.heap.Ns builtinsNs mb) (eb : ∀ x : Str, x ≠ "__name__" → mb x = bootBuiltins x) (lim : s.heap.NoLimit) (gen : s.gens = #[])
    (tb : ∀ p ∈ cs, s.heap.get? p.2 = some { cls := .none, data := .fields #[] }) (tk : ∀ p ∈ cs, K.lookup p.2 = none) (cd : ∀ p ∈ cs, PySem.W.CodeHd s.heap p.1 p.2)
    (bi : ∃ (m : Addr) (o : Obj), mg "__builtins__" = some (.ref m) ∧ m ≠ builtinsNs ∧ s.heap.get? m = some o ∧ o.cls = .type "module" ∧ o.dict = some builtinsNs ∧ o.data = .plain)
    (scr : s.heap.get? a = some { cls := .type "list", data := .seq vs.toArray }) (int : IntsAre vs ns) (sz : ns.length ≤ sizeLine) (ro : Room k callerA)
    (F : ∀ B : Heap, K.In B → B.Ns mainGlobals mg → (StO s.heap → StO B) → (∀ p ∈ cs, LamX.TabB B mg p.1 p.2) → FnG P w K mg B CX0 k fa fd [x] sp) (bd : ∀ (s : Shared) (u : Value), BindsTo s fd ⟨[u], []⟩ [(x, u)])
    (hs : ∀ H : Hp, (∀ p ∈ cs, H p.2 = some (.tbl #[])) → SqL K H a (ns.map V.int) → sp [.ref a] H (fun v _ => v = .bl true) fun _ _ _ => False) :
    codeAny (model P w) callerA (.call (.ref fa) ⟨[.ref a], []⟩) (fun r t => r = .ok (.ret (.bool true)) ∧ OldK s.heap t.heap ∧ t.os = s.os ∧ AllBare t.gens) s := by
  have rv := vals_ints int
  generalize hO : ({ cls := .type "list", data := .seq vs.toArray } : Obj) = O at scr
  have seq : O.data = .seq vs.toArray := by rw [← hO]
  generalize hT : cs.map (·.2) = T
  have inT : ∀ {p}, p ∈ cs → p.2 ∈ T := fun hp => hT ▸ List.mem_map.mpr ⟨_, hp, rfl⟩
  have atT : ∀ {b}, b ∈ T → s.heap.get? b = some { cls := .none, data := .fields #[] } := fun hb => by
    rw [← hT] at hb; obtain ⟨p, hp, rfl⟩ := List.mem_map.mp hb; exact tb p hp
  have keyT : ∀ {b}, b ∈ T → K.lookup b = none := fun hb => by
    rw [← hT] at hb; obtain ⟨p, hp, rfl⟩ := List.mem_map.mp hb; exact tk p hp
  have aT : a ∉ T := fun z => by
    have q := Option.some.inj ((atT z).symm.trans scr)
    rw [← q] at seq; cases seq
  generalize eH : startH K T a O (ns.map V.int) = H
  have onT : ∀ {b}, b ∈ T → H b = some (.tbl #[]) := fun hb => by rw [← eH]; exact if_pos hb
  have out : ∀ {b}, b ∉ T → b ≠ a → H b = none := fun h1 h2 => by rw [← eH]; exact (if_neg h1).trans (if_neg h2)
  have ata : H a = if (K.lookup a).isSome then none else some (.frz O (.lst (ns.map V.int))) := by rw [← eH]; exact (if_neg aT).trans (if_pos rfl)
  -- an object of another kind is not seen
  have plain : ∀ {b o}, s.heap.get? b = some o → (∀ us n, o.data ≠ .seq us n) → o.data ≠ .fields #[] → H b = none := fun {b o} e h1 h2 => by
    apply out
    · intro z; have q := Option.some.inj ((atT z).symm.trans e); rw [← q] at h2; exact h2 rfl
    · intro z; subst z; have q := Option.some.inj (scr.symm.trans e); rw [← q] at h1; exact h1 _ _ seq
  have isD : ∀ {b m}, s.heap.Ns b m → (hidT s.heap H).Ns b m := by
    rintro b m ⟨o, es, ep, e, d, r⟩
    refine ⟨o, es, ep, hidT_get e (plain e ?_ ?_), d, r⟩ <;> (intros; rw [d]; simp)
  have stT : StO s.heap → StO (hidT s.heap H) := fun ⟨o, e, q⟩ => by
    refine ⟨o, hidT_get e (plain e (fun us n z => ?_) (fun z => ?_)), q⟩
    all_goals
      obtain ⟨oc, od, dt, osl⟩ := o
      dsimp only at z
      subst z
      simp [PySem.W.nsIn] at q
  have kinB : K.In (hidT s.heap H) := fun b o e => by
    refine hidT_get (kin b o e) ?_
    by_cases h1 : b ∈ T
    · rw [keyT h1] at e; cases e
    · by_cases h2 : b = a
      · subst h2; rw [ata, e]; rfl
      · exact out h1 h2
  have md : L2.Mod K mg (hidT s.heap H) := ⟨kinB, isD gm, ⟨mb, isD gb, eb⟩, by obtain ⟨mc, c1, c2⟩ := lim; exact ⟨mc, isD c1, c2⟩⟩
  have tabs : ∀ p ∈ cs, LamX.TabB (hidT s.heap H) mg p.1 p.2 := fun p hp => by
    have t0 := tb p hp
    constructor
    · obtain ⟨o, us, file, tf, flags, tg, inF, text, tt, e, q, d, r3, rr⟩ := cd p hp
      refine ⟨o, us, file, tf, flags, tg, inF, text, tt, hidT_get e (plain e (by intros; rw [d]; simp) ?_), q, d, r3, rr⟩
      intro z; rw [d] at z; cases z; simp at r3
    · obtain ⟨m, o, b1, b2, e, b4, b5, d⟩ := bi
      refine ⟨m, o, b1, b2, ?_, ?_, hidT_get e (plain e (by intros; rw [d]; simp) (by rw [d]; simp)), b4, b5, d⟩
      · rintro rfl; obtain ⟨o', es, ep, e', d', _⟩ := gm; rw [e'] at e; cases e; rw [d'] at d; cases d
      · rintro rfl; rw [t0] at e; cases e; cases d
    · intro z
      obtain ⟨o', es, ep, e', d', _⟩ := gm
      rw [z, t0] at e'; cases e'; cases d'
  have hok : HOk P w H s.heap := fun b u e => by
    by_cases h1 : b ∈ T
    · rw [onT h1] at e; cases e; exact atT h1
    · by_cases h2 : b = a
      · subst h2
        rw [ata] at e
        split at e
        · cases e
        · cases e; exact ⟨scr, by rw [List.length_map]; exact sz, vs, _, rv, hO ▸ scr⟩
      · rw [out h1 h2] at e; cases e
  have e0 : Env0 P w K mg (hidT s.heap H) callerA [] s H := ⟨rfl, md, fun b o e => of_hidT e, Nat.le_of_eq (hidT_size _ _), trivial, (by intro b hb; cases hb), hok, .of_eq gen⟩
  have sq : SqL K H a (ns.map V.int) := by
    cases hk : K.lookup a with
    | none => exact .inl (.inr ⟨O, by rw [ata, hk]; rfl⟩)
    | some o =>
      have := Option.some.inj (scr.symm.trans (kin a o hk)); subst this
      exact .inr ⟨O, vs.toArray, 0, hk, by rw [← hO], by rw [← hO], seq, by rw [List.size_toArray, int.length]; exact sz, by simpa using rv⟩
  have run := (F _ kinB (isD gm) stT tabs).go (xs := [.ref a]) ⟨ro, rfl⟩ e0 (bd s (.ref a)) (.cons rfl .nil) (hs H (fun p hp => onT (inT hp)) sq)
  refine codeAny_mono run ?_
  rintro (_ | _ | _ | _ | u) t h
  case error => exact h.elim
  case ok.next => exact h.elim
  case ok.brk => exact h.elim
  case ok.cont => exact h.elim
  obtain ⟨v, H', os, bare, un, hok', r, rfl⟩ := h
  cases r
  have old : ∀ {b o}, b ∉ T → s.heap.get? b = some o → t.heap.get? b = some o := fun {b o} h1 e => by
    cases q : H b with
    | none => exact un.keep b o e q (by intro z; cases z) (by simp)
    | some u =>
      by_cases h2 : b = a
      · subst h2
        rw [ata] at q
        split at q
        · cases q
        · cases q
          rename_i hk
          have z := hok' b _ (un.frzs b O _ (by rw [ata, if_neg hk]))
          rw [Option.some.inj (e.symm.trans scr)]; exact z.1
      · rw [out h1 h2] at q; cases q
  have more : ∀ {b}, b ∈ T → ∃ us : Array Value, t.heap.get? b = some { cls := .none, data := .fields us } := fun hb => by
    obtain ⟨us, z⟩ := un.tbls _ #[] (onT hb)
    exact ⟨_, hok' _ _ z⟩
  refine ⟨rfl, ⟨fun b o e => ?_, fun b o e => ?_⟩, os, bare⟩
  · by_cases hb : b ∈ T
    · have hb' := hb
      rw [← hT] at hb'
      obtain ⟨p, hp, rfl⟩ := List.mem_map.mp hb'
      obtain ⟨us, hu⟩ := more hb
      have q := Option.some.inj ((tb p hp).symm.trans e)
      subst q
      exact .inr (.inl ⟨((cd p hp).tab (tb p hp)).isCodeTable, rfl, #[], us, rfl, by rw [Array.empty_append]; exact hu⟩)
    · exact .inl (old hb e)
  · by_cases hb : b ∈ T
    · obtain ⟨us, hu⟩ := more hb; exact ⟨_, hu⟩
    · exact ⟨o, old hb e⟩
end
/-- what is left of the law -/
def EndG (l : PySem.W.OpenLaw) (w : World) (K : PySem.W.Frag) (k n : Nat) (x : Str) (mg : Str → Option Value) (fa : Addr) (h : Heap) : Prop :=
  ∃ (fd : FuncData) (cs : List (Addr × Addr)) (sp : Sp), (∀ p ∈ cs, h.get? p.2 = some { cls := .none, data := .fields #[] }) ∧ (∀ p ∈ cs, K.lookup p.2 = none) ∧ (∀ p ∈ cs, PySem.W.CodeHd h p.1 p.2) ∧ (∀ (s : Shared) (u : Value), BindsTo s fd ⟨[u], []⟩ [(x, u)]) ∧
    (∀ (H : Hp) (a : Addr) (ns : List Int), ns.length ≤ n → (∀ z ∈ ns, Builtin.Int.intBits z ≤ 1048576) → (∀ p ∈ cs, H p.2 = some (.tbl #[])) → SqL K H a (ns.map V.int) → sp [.ref a] H (fun v _ => v = .bl true) fun _ _ _ => False) ∧
    ∀ B : Heap, K.In B → B.Ns mainGlobals mg → (StO h → StO B) → (∀ p ∈ cs, LamX.TabB B mg p.1 p.2) → FnG l.prog w K mg B CX0 k fa fd [x] sp
theorem walk_end {l : PySem.W.OpenLaw} {n k : Nat} {q : Program} {loose : List Str} {XP : (Str → Option Value) → Heap → Prop} {YP : World → Heap → Prop} {d : DefRec} {x : Str}
    (hn : l.most = some n) (hn2 : n ≤ sizeLine) (hdf : d.params.defaults = []) (hr : Room k callerA)
    (F : ∀ (w : World) (mg : Str → Option Value) (fa : Addr) (h : Heap), YP w h → h.Ns mainGlobals mg → mg d.name = some (.ref fa) → ∃ K : PySem.W.Frag, K.In h ∧ EndG l w K k n x mg fa h) :
    PySem.W.WalkO q loose XP YP l.row.toRowW d [] (fun f vs => PySem.call f vs) := by
  apply Att.attach_callB hn hdf
  intro w s₀ s mg mb fa o pm cd doc a vs ns G Y _ _ _ hmg scr int len bits gen
  obtain ⟨K, kin, fd, cs, sp, t1, t2, t3, bd, hs, hF⟩ := F w mg fa _ Y G.T.g hmg
  exact start_call kin G.T.g G.T.b G.T.builtins G.T.nolimit gen t1 t2 t3 G.T.bmain scr int (Nat.le_trans len hn2) hr hF bd fun H tH sH => hs H a ns len bits tH sH
theorem end_at {l : PySem.W.OpenLaw} {w : World} {K : PySem.W.Frag} {mg : Str → Option Value} {fa : Addr} {h : Heap} {k n : Nat} {x : Str} {fs : List He.Fa} {fn : List He.DefD} {gs : List GetD} {rs : List ErrD} {fd : FuncData} {F : FN} (KX : K.In h) (G : h.Ns mainGlobals mg)
    (c : SaysP fs fn gs rs (tfs.map (·.1)) w h K) (hb : ∀ (s : Shared) (u : Value), BindsTo s fd ⟨[u], []⟩ [(x, u)]) (hok : ∀ base, Wd fs fn gs rs K mg base → FnG l.prog w K mg base CX0 k fa fd [x] (spOf K ⟨mg, w⟩ 1 F))
    (hp : ∀ ns : List Int, ns.length ≤ n → (∀ z ∈ ns, Builtin.Int.intBits z ≤ 1048576) → F xF [.scr ns] (fun _ => none) fun x _ => x = .bl true) : EndG l w K k n x mg fa h := by
  have mem : ∀ {P : Addr × Addr → Prop}, (∀ p ∈ tfs.map (·.1), P (He.cT K p)) → ∀ p ∈ (tfs.map (·.1)).map (He.cT K), P p := fun {P} f p hp => by
    obtain ⟨q, hq, rfl⟩ := List.mem_map.mp hp
    exact f q hq
  refine ⟨fd, (tfs.map (·.1)).map (He.cT K), spOf K ⟨mg, w⟩ 1 F, mem c.x.empty, mem c.x.out, mem fun p hp => PySem.W.codeHd_of_K KX (c.x.hd p hp), hb, fun H a ns hl hbits hT hS => ?_, fun base KB GB SB TB => hok base ⟨⟨base, KB, GB⟩, c.x.t.d, c.g, c.r, fun hr => SB (c.s hr), c.x.more, fun p hp => TB _ (List.mem_map.mpr ⟨p, hp, rfl⟩)⟩⟩
  refine ⟨fun _ => False, fun _ => none, [.scr ns], xF, _, rfl, ⟨fun p hp => ?_, fun a o e => by simp at e, fun a z => z.elim⟩, .one ⟨a, rfl, ?_⟩, .no, hp ns hl hbits, fun eh' H' x v _ _ r e => ?_⟩
  · unfold tabT at hp
    obtain ⟨q, hq, rfl⟩ := List.mem_map.mp hp
    exact .nil (hT _ (List.mem_map.mpr ⟨q.1, List.mem_map.mpr ⟨q, hq, rfl⟩, rfl⟩))
  · rcases hS with (h | h) | h
    · exact .inr (.inl ⟨h, rfl, fun z => z⟩)
    · exact .inl h
    · exact .inr (.inr h)
  · subst e; exact r
end VM

/-! VMP: backward steps through the shallow terms; data; ghosts on heaps. -/
namespace VM
open PySem PySem.Spec PyProof.Rows L2
section
variable {xc : XC} {d : Dn} {es : Es} {eh eh' : Eh} {q : KE} {ql : List EV → Eh → Prop} {qt : Bool → Eh → Prop} {qi : List EV → (Eh → Prop) → Eh → Prop} {qo : Option Int → Eh → Prop} {a b c : ME} {t u : MS} {mt mu : MT} {r : MA} {o o' : EO2} {x y z : EV} {i j n : Int}
theorem fn_i {N : Nat} {xs : List EV} (h : t xc { nx := fun _ eh => q .non eh, rt := q } (xs.map some ++ List.replicate (N - xs.length) none) eh) : fnOf N t xc xs eh q := h
theorem seq_i (h : t xc { d with nx := fun es' eh' => u xc d es' eh' } es eh) : sSeq t u xc d es eh := h
theorem next_i (h : d.nx es eh) : sNext xc d es eh := h
theorem brk_i (h : d.bk es eh) : sBreak xc d es eh := h
theorem cont_i (h : d.ct es eh) : sCont xc d es eh := h
theorem expr_i (h : a xc es eh fun _ eh1 => d.nx es eh1) : sExpr a xc d es eh := h
theorem ret_i (h : a xc es eh d.rt) : sRet a xc d es eh := h
theorem retN_i (h : d.rt .non eh) : sRetN xc d es eh := h
theorem set_i {k : Nat} (h : a xc es eh fun x eh1 => d.nx (es.set k (some x)) eh1) : sSet k a xc d es eh := h
theorem if_i (h : mt xc es eh fun b eh1 => cond b (t xc d es eh1) (u xc d es eh1)) : sIf mt t u xc d es eh := by
  have e : (fun (b : Bool) (eh1 : Eh) => cond b (t xc d es eh1) (u xc d es eh1)) = fun b eh1 => match b with | true => t xc d es eh1 | false => u xc d es eh1 := by funext b eh1; cases b <;> rfl
  rw [e] at h; exact h
theorem asg_i {g : Tg} (h : a xc es eh fun x eh1 => ∃ es', asg g x es = some es' ∧ d.nx es' eh1) : sAsg g a xc d es eh := h
theorem par_i {i j : Nat} (h : r xc es eh fun xs eh1 => ∃ x y, xs = [x, y] ∧ d.nx ((es.set i (some x)).set j (some y)) eh1) : sPar i j r xc d es eh := h
theorem fld_s {cn f : Str} (h : b xc es eh fun y eh1 => a xc es eh1 fun x eh2 => ∃ p fs, x = .ref p ∧ eh2 p = some (.ins cn fs) ∧ fs.length < 1000 ∧ d.nx es (eupd eh2 p (some (.ins cn (putE f y fs))))) : sFldE cn f a b xc d es eh := h
theorem dput_i (h : c xc es eh fun v eh1 => a xc es eh1 fun x eh2 => b xc es eh2 fun y eh3 => ∃ p kvs k, x = .ref p ∧ eh3 p = some (.dct kvs) ∧ keyE y = some k ∧ kvs.length < sizeLine ∧ d.nx es (eupd eh3 p (some (.dct (putKE kvs k v))))) : sDPutE a b c xc d es eh := h
theorem lput_i (h : c xc es eh fun v eh1 => a xc es eh1 fun x eh2 => b xc es eh2 fun y eh3 => ∃ p xs i j, x = .ref p ∧ eh3 p = some (.lst xs) ∧ y = .int i ∧ ixN xs.length i = some j ∧ d.nx es (eupd eh3 p (some (.lst (xs.set j v))))) : sLPutN a b c xc d es eh := h
theorem for_i {mi : MI} {g : Tg} (h : mi xc es eh fun xs ok eh1 => forL g t ok xc d xs es eh1) : sFor mi g t xc d es eh := h
theorem forL_cons {g : Tg} {ok : Eh → Prop} {x : EV} {xs : List EV} {es' : Es} (h1 : ok eh) (h2 : asg g x es = some es') (h3 : t xc { d with nx := fun es1 eh1 => forL g t ok xc d xs es1 eh1, ct := fun es1 eh1 => forL g t ok xc d xs es1 eh1, bk := d.nx } es' eh) : forL g t ok xc d (x :: xs) es eh := ⟨h1, es', h2, h3⟩
theorem forL_nil {g : Tg} {ok : Eh → Prop} (h1 : ok eh) (h : d.nx es eh) : forL g t ok xc d [] es eh := ⟨h1, h⟩
theorem compL_cons {g : Tg} {tt : MT} {te : ME} {vs : List Nat} {ok : Eh → Prop} {x : EV} {xs acc : List EV} {es' : Es} (h1 : ok eh) (h2 : asg g x (wipeE es vs) = some es') (h3 : tt xF es' eh fun b eh1 => cond b (te xF es' eh1 fun y eh2 => acc.length < sizeLine ∧ compL g tt te vs ok q xs (acc ++ [y]) es eh2) (compL g tt te vs ok q xs acc es eh1)) : compL g tt te vs ok q (x :: xs) acc es eh := by
  refine ⟨h1, es', h2, ?_⟩
  have e : (fun (b : Bool) (eh1 : Eh) => cond b (te xF es' eh1 fun y eh2 => acc.length < sizeLine ∧ compL g tt te vs ok q xs (acc ++ [y]) es eh2) (compL g tt te vs ok q xs acc es eh1)) = fun b eh1 => match b with
    | true => te xF es' eh1 fun y eh2 => acc.length < sizeLine ∧ compL g tt te vs ok q xs (acc ++ [y]) es eh2
    | false => compL g tt te vs ok q xs acc es eh1 := by funext k eh1; cases k <;> rfl
  rw [e] at h3; exact h3
theorem compL_nil {g : Tg} {tt : MT} {te : ME} {vs : List Nat} {ok : Eh → Prop} {acc : List EV} (h1 : ok eh) (h : q (.lst acc) eh) : compL g tt te vs ok q [] acc es eh := ⟨h1, h⟩
/-! expressions -/
theorem c_i (h : q x eh) : mC x xc es eh q := h
theorem var_i {k : Nat} (e : es[k]? = some (some x)) (h : q x eh) : mVar k xc es eh q := by unfold mVar; rw [e]; exact h
theorem op_i (h : a xc es eh fun x eh1 => b xc es eh1 fun y eh2 => o x y eh2 q) : mOp o a b xc es eh q := h
theorem un_i {o : EO1} (h : a xc es eh fun x eh1 => o x eh1 q) : mUn o a xc es eh q := h
theorem chain_i (h : a xc es eh fun x eh1 => b xc es eh1 fun y eh2 => o x y eh2 fun z eh3 => ∃ k, z = .bl k ∧ cond k (c xc es eh3 fun w eh4 => o' y w eh4 q) (q (.bl false) eh3)) : mChain o o' a b c xc es eh q := by
  have e : ∀ y, (fun (z : EV) (eh3 : Eh) => ∃ k, z = .bl k ∧ cond k (c xc es eh3 fun w eh4 => o' y w eh4 q) (q (.bl false) eh3)) = fun z eh3 => match z with
    | .bl true => c xc es eh3 fun w eh4 => o' y w eh4 q
    | .bl false => q (.bl false) eh3
    | _ => False := fun y => by
      funext z eh3
      apply propext
      cases z with
      | bl k => cases k <;> simp
      | _ => simp
  simp only [e] at h; exact h
theorem ife_i (h : mt xc es eh fun k eh1 => cond k (a xc es eh1 q) (b xc es eh1 q)) : mIf mt a b xc es eh q := by
  have e : (fun (k : Bool) (eh1 : Eh) => cond k (a xc es eh1 q) (b xc es eh1 q)) = fun k eh1 => match k with | true => a xc es eh1 q | false => b xc es eh1 q := by funext k eh1; cases k <;> rfl
  rw [e] at h; exact h
theorem anil_i (h : ql [] eh) : aNil xc es eh ql := h
theorem acons_i (h : a xc es eh fun x eh1 => r xc es eh1 fun xs eh2 => ql (x :: xs) eh2) : aCons a r xc es eh ql := h
theorem astar_i (h : a xc es eh fun x eh1 => ∃ ys, seqE eh1 x = some ys ∧ r xc es eh1 fun xs eh2 => ql (ys ++ xs) eh2) : aStar a r xc es eh ql := h
theorem tup_i (h : r xc es eh fun xs eh1 => xs.length ≤ sizeLine ∧ q (.tup xs) eh1) : mTup r xc es eh q := h
theorem lst_i (h : r xc es eh fun xs eh1 => xs.length ≤ sizeLine ∧ q (.lst xs) eh1) : mLst r xc es eh q := h
theorem lstR_i (h : r xc es eh fun xs eh1 => xs.length ≤ sizeLine ∧ ∀ p, eh1 p = none → q (.ref p) (eupd eh1 p (some (.lst xs)))) : mLstR r xc es eh q := h
theorem fld_i {cn f : Str} (h : a xc es eh fun x eh1 => ∃ fs v, insE eh1 x = some (cn, fs) ∧ fs.lookup f = some v ∧ q v eh1) : mFld cn f a xc es eh q := h
theorem dnew_i (h : ∀ p, eh p = none → q (.ref p) (eupd eh p (some (.dct [])))) : mDNew xc es eh q := h
theorem cb_i {o : EOL} (h : r xc es eh fun xs eh1 => o xs eh1 q) : mCB o r xc es eh q := h
theorem bm_i {p : Eh → EV → Prop} {o : EV → EOL} (h : a xc es eh fun x eh1 => p eh1 x ∧ r xc es eh1 fun xs eh2 => o x xs eh2 q) : mBM p o a r xc es eh q := h
theorem sl_i {o : EOS} {lo hi} (h : a xc es eh fun x eh1 => lo xc es eh1 fun l eh2 => hi xc es eh2 fun h eh3 => o x l h eh3 q) : mSl o a lo hi xc es eh q := h
theorem no_i (h : qo none eh) : mNo xc es eh qo := h
theorem pt_i (h : a xc es eh fun x eh1 => ∃ i, x = .int i ∧ qo (some i) eh1) : mPt a xc es eh qo := by
  have e : (fun (x : EV) (eh1 : Eh) => ∃ i, x = .int i ∧ qo (some i) eh1) = fun x eh1 => match x with | .int i => qo (some i) eh1 | _ => False := by
    funext x eh1; apply propext; cases x <;> simp
  rw [e] at h; exact h
theorem call_i {F : FN} {m : Nat} {dx : List EV} (h : r xc es eh fun xs eh1 => (xs ++ dx).length = m ∧ F xc (xs ++ dx) eh1 q) : mCall F m dx r xc es eh q := h
theorem calln_i {F : FN} {N n m : Nat} {gE} {tk : MA} (h : r xc es eh fun xs eh1 => tk xc es eh1 fun zs eh2 => xs.length = n ∧ zs.length = m ∧ (gE xs zs).length = N ∧ F xc (gE xs zs) eh2 q) : mCallN F N n m gE r tk xc es eh q := h
theorem make_i {cn : Str} {F : FN} {m : Nat} {dx : List EV} (h : r xc es eh fun xs eh1 => (xs ++ dx).length + 1 = m ∧ ∀ p, eh1 p = none → F xc (.ref p :: (xs ++ dx)) (eupd eh1 p (some (.ins cn []))) fun v eh2 => v = .non ∧ q (.ref p) eh2) : mMake cn F m dx r xc es eh q := h
theorem prop_i {cn : Str} {F : FN} {m : Nat} {dx : List EV} (h : a xc es eh fun x eh1 => ∃ fs, insE eh1 x = some (cn, fs) ∧ dx.length + 1 = m ∧ F xc (x :: dx) eh1 q) : mProp cn F m dx a xc es eh q := h
theorem meth_i {cn mn : Str} {F : FN} {m : Nat} {dx : List EV} (h : a xc es eh fun x eh1 => ∃ fs, insE eh1 x = some (cn, fs) ∧ fs.lookup mn = none ∧ r xc es eh1 fun xs eh2 => (x :: (xs ++ dx)).length = m ∧ F xc (x :: (xs ++ dx)) eh2 q) : mMeth cn mn F m dx a r xc es eh q := h
/-- a call whose result is frozen -/
def FZ (S : Addr → Bool) (F : FN) (xc : XC) (xs : List EV) (eh : Eh) (q : KE) : Prop := F xc xs eh fun x eh1 => q (fz S eh1 9 x) (drE S eh1)
def MZ (S : Addr → Bool) (cn : Str) (F : FN) (xc : XC) (xs : List EV) (eh : Eh) (q : KE) : Prop := ∀ p, eh p = none → F xc (.ref p :: xs) (eupd eh p (some (.ins cn []))) fun v eh2 => v = .non ∧ q (fz S eh2 9 (.ref p)) (drE S eh2)
theorem fzc_i {F : FN} {m : Nat} {dx : List EV} (h : r xc es eh fun xs eh1 => (xs ++ dx).length = m ∧ FZ (nw eh) F xc (xs ++ dx) eh1 q) : mFz 9 (mCall F m dx r) xc es eh q := h
theorem fzn_i {F : FN} {N n m : Nat} {gE} {tk : MA} (h : r xc es eh fun xs eh1 => tk xc es eh1 fun zs eh2 => xs.length = n ∧ zs.length = m ∧ (gE xs zs).length = N ∧ FZ (nw eh) F xc (gE xs zs) eh2 q) : mFz 9 (mCallN F N n m gE r tk) xc es eh q := h
theorem fzp_i {cn : Str} {F : FN} {m : Nat} {dx : List EV} (h : a xc es eh fun x eh1 => ∃ fs, insE eh1 x = some (cn, fs) ∧ dx.length + 1 = m ∧ FZ (nw eh) F xc (x :: dx) eh1 q) : mFz 9 (mProp cn F m dx a) xc es eh q := h
theorem fzm_i {cn mn : Str} {F : FN} {m : Nat} {dx : List EV} (h : a xc es eh fun x eh1 => ∃ fs, insE eh1 x = some (cn, fs) ∧ fs.lookup mn = none ∧ r xc es eh1 fun xs eh2 => (x :: (xs ++ dx)).length = m ∧ FZ (nw eh) F xc (x :: (xs ++ dx)) eh2 q) : mFz 9 (mMeth cn mn F m dx a r) xc es eh q := h
theorem fzk_i {cn : Str} {F : FN} {m : Nat} {dx : List EV} (h : r xc es eh fun xs eh1 => (xs ++ dx).length + 1 = m ∧ MZ (nw eh) cn F xc (xs ++ dx) eh1 q) : mFz 9 (mMake cn F m dx r) xc es eh q := h
theorem nw_eupd {p : Addr} {u : EO} (h : eh p ≠ none) : nw (eupd eh p (some u)) = nw eh := by
  funext c
  unfold nw eupd
  by_cases hc : c = p
  · subst hc; cases e : eh c <;> simp_all
  · simp [hc]
theorem fzF_i {k m : Nat} {cn f : Str} (h : ∃ p fs w, es[k]? = some (some (.ref p)) ∧ eh p = some (.ins cn fs) ∧ fs.lookup f = some (.ref w) ∧ w ≠ p ∧ t xc d es (eupd (drE (fun b => b == w) eh) p (some (.ins cn (putE f (fz (fun b => b == w) eh m (.ref w)) fs))))) : sFzF k cn f m t xc d es eh := h
theorem fzV_i {k : Nat} {p : Addr} {xs : List EV} (e1 : es[k]? = some (some (.ref p))) (e2 : eh p = some (.lst xs)) (h : t xc d (es.set k (some (.lst xs))) (eupd eh p none)) : sFzV k t xc d es eh := ⟨p, xs, e1, e2, h⟩
theorem methn_i {cn mn : Str} {F : FN} {N m : Nat} {gE} {tk : MA} (h : a xc es eh fun x eh1 => ∃ fs, insE eh1 x = some (cn, fs) ∧ fs.lookup mn = none ∧ tk xc es eh1 fun zs eh2 => zs.length = m ∧ (gE [x] zs).length = N ∧ FZ (nw eh) F xc (gE [x] zs) eh2 q) : mFz 9 (mMethN cn mn F N m gE a tk) xc es eh q := h
theorem max2_i (h : q (.int (if i < j then j else i)) eh) : bMax [.int i, .int j] eh q := h
theorem sortk_i (h : a xc es eh fun x eh1 => ∃ xs, lstE eh1 x = some xs ∧ xs.all isK0 = true ∧ q (.lst (sortK0 xs)) eh1) : mSortK0 a xc es eh q := h
theorem comp_i {mi : MI} {g : Tg} {tt : MT} {te : ME} {vs : List Nat} (h : mi xc es eh fun xs ok eh1 => compL g tt te vs ok q xs [] es eh1) : mComp mi g tt te vs xc es eh q := h
theorem comp2_i {mi mi1 : MI} {g g1 : Tg} {tt tt1 : MT} {te : ME} {vs vs1 : List Nat} (h : mi xc es eh fun xs ok eh1 => comp2L g tt mi1 g1 tt1 te vs vs1 ok q xs [] es eh1) : mComp2 mi g tt mi1 g1 tt1 te vs vs1 xc es eh q := h
/-! tests -/
theorem val_i (h : a xc es eh fun x eh1 => ∃ k, x = .bl k ∧ qt k eh1) : tVal a xc es eh qt := by
  have e : (fun (x : EV) (eh1 : Eh) => ∃ k, x = .bl k ∧ qt k eh1) = fun x eh1 => match x with | .bl b => qt b eh1 | _ => False := by
    funext x eh1; apply propext; cases x <;> simp
  rw [e] at h; exact h
theorem tru_i (h : a xc es eh fun x eh1 => ∃ k, truE eh1 x = some k ∧ qt k eh1) : tTru a xc es eh qt := by
  have e : (fun (x : EV) (eh1 : Eh) => ∃ k, truE eh1 x = some k ∧ qt k eh1) = fun x eh1 => match truE eh1 x with | some b => qt b eh1 | none => False := by
    funext x eh1; apply propext; cases truE eh1 x <;> simp
  rw [e] at h; exact h
theorem tand_i (h : mt xc es eh fun k eh1 => cond k (mu xc es eh1 qt) (qt false eh1)) : tAnd mt mu xc es eh qt := by
  have e : (fun (k : Bool) (eh1 : Eh) => cond k (mu xc es eh1 qt) (qt false eh1)) = fun k eh1 => match k with | true => mu xc es eh1 qt | false => qt false eh1 := by funext k eh1; cases k <;> rfl
  rw [e] at h; exact h
theorem tor_i (h : mt xc es eh fun k eh1 => cond k (qt true eh1) (mu xc es eh1 qt)) : tOr mt mu xc es eh qt := by
  have e : (fun (k : Bool) (eh1 : Eh) => cond k (qt true eh1) (mu xc es eh1 qt)) = fun k eh1 => match k with | true => qt true eh1 | false => mu xc es eh1 qt := by funext k eh1; cases k <;> rfl
  rw [e] at h; exact h
theorem tnot_i (h : mt xc es eh fun k eh1 => qt (!k) eh1) : tNot mt xc es eh qt := h
theorem tyes_i (h : qt true eh) : tYesE xc es eh qt := h
theorem mand_i (h : a xc es eh fun x eh1 => ∃ k, x = .bl k ∧ cond k (b xc es eh1 q) (q (.bl false) eh1)) : mAnd a b xc es eh q := by
  have e : (fun (x : EV) (eh1 : Eh) => ∃ k, x = .bl k ∧ cond k (b xc es eh1 q) (q (.bl false) eh1)) = fun x eh1 => match x with | .bl true => b xc es eh1 q | .bl false => q (.bl false) eh1 | _ => False := by
    funext x eh1; apply propext
    cases x with
    | bl k => cases k <;> simp
    | _ => simp
  rw [e] at h; exact h
theorem mor_i (h : a xc es eh fun x eh1 => ∃ k, x = .bl k ∧ cond k (q (.bl true) eh1) (b xc es eh1 q)) : mOr a b xc es eh q := by
  have e : (fun (x : EV) (eh1 : Eh) => ∃ k, x = .bl k ∧ cond k (q (.bl true) eh1) (b xc es eh1 q)) = fun x eh1 => match x with | .bl true => q (.bl true) eh1 | .bl false => b xc es eh1 q | _ => False := by
    funext x eh1; apply propext
    cases x with
    | bl k => cases k <;> simp
    | _ => simp
  rw [e] at h; exact h
theorem mnot_i (h : a xc es eh fun x eh1 => ∃ k, x = .bl k ∧ q (.bl (!k)) eh1) : mNot a xc es eh q := by
  have e : (fun (x : EV) (eh1 : Eh) => ∃ k, x = .bl k ∧ q (.bl (!k)) eh1) = fun x eh1 => match x with | .bl c => q (.bl (!c)) eh1 | _ => False := by
    funext x eh1; apply propext; cases x <;> simp
  rw [e] at h; exact h
/-! values -/
theorem bl_i {k : Bool} {P : Bool → Prop} (h : P k) : ∃ k', EV.bl k = .bl k' ∧ P k' := ⟨k, rfl, h⟩
theorem cT_i {A B : Prop} (h : A) : cond true A B := h
theorem cF_i {A B : Prop} (h : B) : cond false A B := h
theorem cD_i {p : Prop} [Decidable p] {A B : Prop} (h1 : p → A) (h2 : ¬ p → B) : cond (decide p) A B := by by_cases hp : p <;> simp [hp, h1, h2]
theorem cB_i {k : Bool} {A B : Prop} (h1 : k = true → A) (h2 : k = false → B) : cond k A B := by cases k <;> simp_all
theorem add_i (h : q (.int (i + j)) eh) : oAdd (.int i) (.int j) eh q := h
theorem sub_i (h : q (.int (i - j)) eh) : oSub (.int i) (.int j) eh q := h
theorem mul_i (c : MulC i j) (h : q (.int (i * j)) eh) : oMul (.int i) (.int j) eh q := ⟨c, h⟩
theorem div_i (c : 0 < j ∧ j.natAbs.log2 < 9000) (h : q (.int (i / j)) eh) : oDiv (.int i) (.int j) eh q := ⟨c, h⟩
theorem mod_i (c : 0 < j) (h : q (.int (i % j)) eh) : oMod (.int i) (.int j) eh q := ⟨c, h⟩
theorem pow_i (c : 0 ≤ j ∧ (Builtin.Int.intBits i : Int) * j ≤ 2 ^ 27) (h : q (.int (i ^ j.toNat)) eh) : oPow (.int i) (.int j) eh q := ⟨c, h⟩
theorem neg_i (h : q (.int (-i)) eh) : oNeg (.int i) eh q := h
theorem lt_i (h : q (.bl (decide (i < j))) eh) : oLt (.int i) (.int j) eh q := h
theorem le_i (h : q (.bl (decide (i ≤ j))) eh) : oLe (.int i) (.int j) eh q := h
theorem gt_i (h : q (.bl (decide (j < i))) eh) : oGt (.int i) (.int j) eh q := h
theorem ge_i (h : q (.bl (decide (j ≤ i))) eh) : oGe (.int i) (.int j) eh q := h
theorem eqI_i (h : q (.bl (decide (i = j))) eh) : cEq false (.int i) (.int j) eh q := by unfold cEq; simpa using h
theorem neI_i (h : q (.bl (!decide (i = j))) eh) : cEq true (.int i) (.int j) eh q := by unfold cEq; simpa using h
theorem eqS_i {s s' : Str} (h : q (.bl (decide (s = s'))) eh) : cEq false (.str s) (.str s') eh q := by unfold cEq; simpa using h
theorem int_i (h : q (.int i) eh) : bInt [.int i] eh q := h
theorem abs_i (h : q (.int (if i < 0 then -i else i)) eh) : bAbs [.int i] eh q := h
theorem min2_i (h : q (.int (if j < i then j else i)) eh) : bMin [.int i, .int j] eh q := h
theorem ix_i {xs : List EV} (e : seqE eh x = some xs) (ez : atI xs i = some z) (h : q z eh) : oIx x (.int i) eh q := by
  unfold oIx
  cases x <;> first | exact .inl ⟨_, _, _, e, rfl, ez, h⟩ | (simp [seqE] at e)
theorem ixd_i {kvs : List (Key × EV)} {k : Key} (e : dctE eh x = some kvs) (ek : keyE y = some k) (ez : getK kvs k = some z) (h : q z eh) : oIx x y eh q := by
  unfold oIx
  cases x <;> first | exact .inr ⟨_, _, _, e, ek, ez, h⟩ | (simp [dctE] at e)
theorem len_i {xs : List EV} (e : seqE eh x = some xs) (h : q (.int xs.length) eh) : bLen [x] eh q := by
  unfold bLen
  cases x <;> first | exact .inl ⟨_, e, h⟩ | (simp [seqE] at e)
theorem lenS_i {s : Str} (e : s.length ≤ sizeLine) (h : q (.int s.length) eh) : bLen [.str s] eh q := ⟨e, h⟩
theorem tuple_i {xs : List EV} (e : seqE eh x = some xs) (h : q (.tup xs) eh) : bTuple [x] eh q := by
  unfold bTuple
  cases x <;> first | exact ⟨_, e, h⟩ | (cases e; exact h)
theorem listR_i {xs : List EV} (e : seqE eh x = some xs) (h : ∀ p, eh p = none → q (.ref p) (eupd eh p (some (.lst xs)))) : bListR [x] eh q := ⟨_, e, h⟩
theorem any_i {m : ME} (h : m xc es eh fun x eh1 => ∃ xs ok, walkE eh1 x = some (xs, ok) ∧ qi xs ok eh1) : iAny m xc es eh qi := h
theorem rng1_i {m : MA} (h : m xc es eh fun xs eh1 => ∃ j, xs = [.int j] ∧ (-(2 ^ 62) ≤ j ∧ j < 2 ^ 62) ∧ qi ((List.range j.toNat).map fun (i : Nat) => .int (i : Int)) (fun _ => True) eh1) : iRange1 m xc es eh qi := by
  have e : (fun (xs : List EV) (eh1 : Eh) => ∃ j, xs = [.int j] ∧ (-(2 ^ 62) ≤ j ∧ j < 2 ^ 62) ∧ qi ((List.range j.toNat).map fun (i : Nat) => .int (i : Int)) (fun _ => True) eh1) = fun xs eh1 => match xs with
    | [.int j] => (-(2 ^ 62) ≤ j ∧ j < 2 ^ 62) ∧ qi ((List.range j.toNat).map fun (i : Nat) => .int (i : Int)) (fun _ => True) eh1
    | _ => False := by
    funext xs eh1; apply propext
    split
    · constructor
      · rintro ⟨j, e, h⟩; cases e; exact h
      · exact fun h => ⟨_, rfl, h⟩
    · rename_i hn
      constructor
      · rintro ⟨j, e, _⟩; exact hn j e
      · exact False.elim
  rw [e] at h; exact h
theorem enum_i {m : MA} (h : m xc es eh fun xs eh1 => ∃ x ys ok, xs = [x] ∧ srcL eh1 x = some (ys, ok) ∧ qi (ys.mapIdx fun i x => .tup [.int (i : Nat), x]) ok eh1) : iEnumM m xc es eh qi := by
  have e : (fun (xs : List EV) (eh1 : Eh) => ∃ x ys ok, xs = [x] ∧ srcL eh1 x = some (ys, ok) ∧ qi (ys.mapIdx fun i x => .tup [.int (i : Nat), x]) ok eh1) = fun xs eh1 => match xs with
    | [x] => ∃ ys ok, srcL eh1 x = some (ys, ok) ∧ qi (ys.mapIdx fun i x => .tup [.int (i : Nat), x]) ok eh1
    | _ => False := by
    funext xs eh1; apply propext
    split
    · constructor
      · rintro ⟨j, ys, ok, e, h⟩; cases e; exact ⟨_, _, h⟩
      · rintro ⟨ys, ok, h⟩; exact ⟨_, ys, ok, rfl, h⟩
    · rename_i hn
      constructor
      · rintro ⟨j, _, _, e, _⟩; exact hn j e
      · exact False.elim
  rw [e] at h; exact h
def zipP (qi : List EV → (Eh → Prop) → Eh → Prop) (xs : List EV) (eh1 : Eh) : Prop := match xs with
  | [x, y] => (∃ xs ys, srcT x = some xs ∧ srcT y = some ys ∧ qi ((xs.zip ys).map fun p => .tup [p.1, p.2]) (fun _ => True) eh1) ∨
      ∃ xs ys ok ok', srcL eh1 x = some (xs, ok) ∧ srcL eh1 y = some (ys, ok') ∧ qi ((xs.zip ys).map fun p => .tup [p.1, p.2]) (fun h => ok h ∧ ok' h) eh1
  | _ => False
theorem zip_i {m : MA} (h : m xc es eh fun xs eh1 => zipP qi xs eh1) : iZipM m xc es eh qi := h
theorem zipT_i {us vs : List EV} (h : qi ((us.zip vs).map fun p => .tup [p.1, p.2]) (fun _ => True) eh) : zipP qi [.tup us, .tup vs] eh := .inl ⟨us, vs, rfl, rfl, h⟩
theorem items_i {m : ME} (h : m xc es eh fun x eh1 => ∃ kvs, x = .dct kvs ∧ qi (kvs.map fun p => .tup [keyV p.1, p.2]) (fun _ => True) eh1) : iItemsM m xc es eh qi := by
  have e : (fun (x : EV) (eh1 : Eh) => ∃ kvs, x = .dct kvs ∧ qi (kvs.map fun p => .tup [keyV p.1, p.2]) (fun _ => True) eh1) = fun x eh1 => match x with
    | .dct kvs => qi (kvs.map fun p => .tup [keyV p.1, p.2]) (fun _ => True) eh1
    | _ => False := by
    funext x eh1; apply propext; cases x <;> simp
  rw [e] at h; exact h
theorem drE_same {a : Addr} {s : EO} (h : eh a ≠ none) : drE (nw eh) (eupd eh a (some s)) = eupd eh a (some s) := by
  funext b
  unfold drE nw eupd
  by_cases hb : b = a
  · subst hb; cases e : eh b <;> simp_all
  · cases e : eh b <;> simp [hb, e]
theorem drE_self : drE (nw eh) eh = eh := by
  funext b
  unfold drE nw
  cases e : eh b <;> simp [e]
end
end VM

/-! VMQ: comprehensions and loops at once: maps, filters, invariants; equality of data. -/
namespace VM
open PySem PySem.Spec PyProof.Rows L2
theorem szL {n : Nat} (h : n ≤ 5000) : n ≤ sizeLine := Nat.le_trans h (by decide)
theorem szT {n : Nat} (h : n ≤ 5000) : n < sizeLine := Nat.lt_of_le_of_lt h (by decide)
section
variable {xc : XC} {d : Dn} {es : Es} {eh eh' : Eh} {q : KE} {qt : Bool → Eh → Prop} {g : Tg} {te : ME} {tt : MT} {t : MS} {vs : List Nat} {ok : Eh → Prop} {α : Type}
/-- an element that is a function of the item -/
theorem comp_map {c f : α → EV} : ∀ {L : List α} {acc : List EV}, ok eh → acc.length + L.length ≤ 5000 → (∀ a ∈ L, ∃ es', asg g (c a) (wipeE es vs) = some es' ∧ ∀ q' : KE, q' (f a) eh → te xF es' eh q') → q (.lst (acc ++ L.map f)) eh →
    compL g tYesE te vs ok q (L.map c) acc es eh
  | [], acc, ho, _, _, k => ⟨ho, by simpa using k⟩
  | a :: L, acc, ho, hl, h, k => by
    simp only [List.length_cons] at hl
    obtain ⟨es', e, b⟩ := h a (by simp)
    exact ⟨ho, es', e, b _ ⟨szT (by omega), comp_map ho (by simp; omega) (fun x hx => h x (by simp [hx])) (by simpa using k)⟩⟩
/-- with a test that is a function of the item -/
theorem comp_filter {c f : α → EV} {p : α → Bool} : ∀ {L : List α} {acc : List EV}, ok eh → acc.length + L.length ≤ 5000 →
    (∀ a ∈ L, ∃ es', asg g (c a) (wipeE es vs) = some es' ∧ (∀ qt : Bool → Eh → Prop, qt (p a) eh → tt xF es' eh qt) ∧ (p a = true → ∀ q' : KE, q' (f a) eh → te xF es' eh q')) → q (.lst (acc ++ (L.filter p).map f)) eh →
    compL g tt te vs ok q (L.map c) acc es eh
  | [], acc, ho, _, _, k => ⟨ho, by simpa using k⟩
  | a :: L, acc, ho, hl, h, k => by
    simp only [List.length_cons] at hl
    obtain ⟨es', e, b, b'⟩ := h a (by simp)
    refine ⟨ho, es', e, b _ ?_⟩
    cases hp : p a with
    | true => exact b' hp _ ⟨szT (by omega), comp_filter ho (by simp; omega) (fun x hx => h x (by simp [hx])) (by simpa [hp] using k)⟩
    | false => exact comp_filter ho (by omega) (fun x hx => h x (by simp [hx])) (by simpa [hp] using k)
/-- elements that change the heap -/
theorem comp_inv {c : α → EV} (J : List EV → List α → Eh → Prop) : ∀ {L : List α} {acc : List EV} {eh : Eh}, J acc L eh → acc.length + L.length ≤ 5000 →
    (∀ acc a L eh, J acc (a :: L) eh → ok eh ∧ ∃ es', asg g (c a) (wipeE es vs) = some es' ∧ ∀ q' : KE, (∀ y eh', J (acc ++ [y]) L eh' → q' y eh') → te xF es' eh q') → (∀ acc eh, J acc [] eh → ok eh ∧ q (.lst acc) eh) →
    compL g tYesE te vs ok q (L.map c) acc es eh
  | [], acc, eh, h, _, _, k => k _ _ h
  | a :: L, acc, eh, h, hl, st, k => by
    simp only [List.length_cons] at hl
    obtain ⟨ho, es', e, b⟩ := st _ _ _ _ h
    exact ⟨ho, es', e, b _ fun y eh' h' => ⟨szT (by omega), comp_inv J h' (by simp; omega) st k⟩⟩
/-- a loop by its invariant: what is left, the slots, the heap -/
theorem for_inv {c : α → EV} (J : List α → Es → Eh → Prop) : ∀ {L : List α} {es : Es} {eh : Eh}, J L es eh →
    (∀ a L es eh, J (a :: L) es eh → ok eh ∧ ∃ es', asg g (c a) es = some es' ∧ ∀ d' : Dn, d'.rt = d.rt → (∀ es1 eh1, J L es1 eh1 → d'.nx es1 eh1) → (∀ es1 eh1, J L es1 eh1 → d'.ct es1 eh1) → (∀ es1 eh1, d.nx es1 eh1 → d'.bk es1 eh1) → t xc d' es' eh) →
    (∀ es eh, J [] es eh → ok eh ∧ d.nx es eh) → forL g t ok xc d (L.map c) es eh
  | [], es, eh, h, _, k => k _ _ h
  | a :: L, es, eh, h, st, k => by
    obtain ⟨ho, es', e, b⟩ := st _ _ _ _ h
    exact ⟨ho, es', e, b _ rfl (fun es1 eh1 h1 => for_inv J h1 st k) (fun es1 eh1 h1 => for_inv J h1 st k) fun es1 eh1 h => h⟩
/-- a while loop by a measure -/
theorem whileN_inv {c : MT} (J : Nat → Es → Eh → Prop)
    (st : ∀ n es eh, J n es eh → ∀ qt : Bool → Eh → Prop, (∀ b eh1, (b = true → ∀ d' : Dn, d'.rt = d.rt → (∀ m es1 eh1, m < n → J m es1 eh1 → d'.nx es1 eh1) → (∀ m es1 eh1, m < n → J m es1 eh1 → d'.ct es1 eh1) → (∀ es1 eh1, d.nx es1 eh1 → d'.bk es1 eh1) → t xc d' es eh1) → (b = false → d.nx es eh1) → qt b eh1) → c xc es eh qt) :
    ∀ (N n : Nat) {es : Es} {eh : Eh}, n < N → J n es eh → whileN c t xc d N es eh
  | 0, _, _, _, h, _ => absurd h (Nat.not_lt_zero _)
  | N + 1, n, es, eh, h, j => by
    refine st n es eh j _ fun b eh1 h1 h2 => ?_
    cases b with
    | true => exact h1 rfl _ rfl (fun m es1 eh1 hm jm => whileN_inv J st N m (by omega) jm) (fun m es1 eh1 hm jm => whileN_inv J st N m (by omega) jm) fun es1 eh1 h => h
    | false => exact h2 rfl
theorem while_inv {c : MT} (J : Nat → Es → Eh → Prop) (n : Nat) (j : J n es eh)
    (st : ∀ n es eh, J n es eh → ∀ qt : Bool → Eh → Prop, (∀ b eh1, (b = true → ∀ d' : Dn, d'.rt = d.rt → (∀ m es1 eh1, m < n → J m es1 eh1 → d'.nx es1 eh1) → (∀ m es1 eh1, m < n → J m es1 eh1 → d'.ct es1 eh1) → (∀ es1 eh1, d.nx es1 eh1 → d'.bk es1 eh1) → t xc d' es eh1) → (b = false → d.nx es eh1) → qt b eh1) → c xc es eh qt) :
    sWhile c t xc d es eh := ⟨n + 1, whileN_inv J st _ n (Nat.lt_succ_self n) j⟩
end
/-! ### equality of data -/
/-- data without truth values, at most so deep -/
def okD : Nat → EV → Bool
  | _, .non => true
  | _, .int _ => true
  | _, .str _ => true
  | n + 1, .tup xs => xs.all (okD n)
  | n + 1, .lst xs => xs.all (okD n)
  | _, _ => false
/-- with truth values -/
def okB : Nat → EV → Bool
  | _, .non => true
  | _, .bl _ => true
  | _, .int _ => true
  | _, .str _ => true
  | n + 1, .tup xs => xs.all (okB n)
  | n + 1, .lst xs => xs.all (okB n)
  | _, _ => false
theorem okB_of : ∀ {n : Nat} {x : EV}, okD n x = true → okB n x = true
  | n, .non, _ => by cases n <;> rfl
  | n, .int _, _ => by cases n <;> rfl
  | n, .str _, _ => by cases n <;> rfl
  | n + 1, .tup xs, h => List.all_eq_true.mpr fun y hy => okB_of (List.all_eq_true.mp (show xs.all (okD n) = true from h) y hy)
  | n + 1, .lst xs, h => List.all_eq_true.mpr fun y hy => okB_of (List.all_eq_true.mp (show xs.all (okD n) = true from h) y hy)
  | 0, .tup _, h => by cases h
  | 0, .lst _, h => by cases h
  | n, .bl _, h => by cases n <;> cases h
  | n, .ty _, h => by cases n <;> cases h
  | n, .ref _, h => by cases n <;> cases h
  | n, .glo _, h => by cases n <;> cases h
  | n, .scr _, h => by cases n <;> cases h
  | n, .dct _, h => by cases n <;> cases h
  | n, .obj _ _, h => by cases n <;> cases h
  | n, .exc _ _, h => by cases n <;> cases h
  | n, .exa _ _ _, h => by cases n <;> cases h
  | n, .dn _, h => by cases n <;> cases h
structure DOk (n : Nat) (x : EV) : Prop where
  d : isD x = true
  p : (D x).plain = true
  z : (D x).depth ≤ n
theorem DOk.all {n : Nat} : ∀ {xs : List EV}, (∀ x ∈ xs, DOk n x) → isDL xs = true ∧ PyData.plainAll (DL xs) = true ∧ PyData.depthAll (DL xs) ≤ n
  | [], _ => ⟨rfl, rfl, Nat.zero_le _⟩
  | x :: xs, h => by
    have a := h x (by simp)
    obtain ⟨b1, b2, b3⟩ := DOk.all (xs := xs) fun y hy => h y (by simp [hy])
    refine ⟨by simp [isDL, a.d, b1], by simp [DL, PyData.plainAll, a.p, b2], ?_⟩
    simp only [DL, PyData.depthAll]
    exact Nat.max_le.mpr ⟨a.z, b3⟩
theorem DOk.of : ∀ {n : Nat} {x : EV}, okB n x = true → DOk n x
  | n, .non, _ => ⟨rfl, rfl, Nat.zero_le _⟩
  | n, .bl _, _ => ⟨rfl, rfl, Nat.zero_le _⟩
  | n, .int _, _ => ⟨rfl, rfl, Nat.zero_le _⟩
  | n, .str _, _ => ⟨rfl, rfl, Nat.zero_le _⟩
  | n + 1, .tup xs, h => by
    obtain ⟨a, b, c⟩ := DOk.all (n := n) (xs := xs) fun y hy => DOk.of (List.all_eq_true.mp (show xs.all (okB n) = true from h) y hy)
    exact ⟨a, b, Nat.succ_le_succ c⟩
  | n + 1, .lst xs, h => by
    obtain ⟨a, b, c⟩ := DOk.all (n := n) (xs := xs) fun y hy => DOk.of (List.all_eq_true.mp (show xs.all (okB n) = true from h) y hy)
    exact ⟨a, b, Nat.succ_le_succ c⟩
  | 0, .tup _, h => by cases h
  | 0, .lst _, h => by cases h
  | n, .ty _, h => by cases n <;> cases h
  | n, .ref _, h => by cases n <;> cases h
  | n, .glo _, h => by cases n <;> cases h
  | n, .scr _, h => by cases n <;> cases h
  | n, .dct _, h => by cases n <;> cases h
  | n, .obj _ _, h => by cases n <;> cases h
  | n, .exc _ _, h => by cases n <;> cases h
  | n, .exa _ _ _, h => by cases n <;> cases h
  | n, .dn _, h => by cases n <;> cases h
theorem eqvAll_iff {n : Nat} (ih : ∀ x y, okD n x = true → okD n y = true → (PyData.eqv (D x) (D y) = true ↔ x = y)) : ∀ {xs ys : List EV}, xs.all (okD n) = true → ys.all (okD n) = true → (PyData.eqvAll (DL xs) (DL ys) = true ↔ xs = ys)
  | [], [], _, _ => by simp [DL, PyData.eqvAll]
  | [], _ :: _, _, _ => by simp [DL, PyData.eqvAll]
  | _ :: _, [], _, _ => by simp [DL, PyData.eqvAll]
  | x :: xs, y :: ys, h, h' => by
    simp only [List.all_cons, Bool.and_eq_true] at h h'
    simp only [DL, PyData.eqvAll, Bool.and_eq_true, ih x y h.1 h'.1, eqvAll_iff ih h.2 h'.2, List.cons.injEq]
theorem eqv_iff : ∀ {n : Nat} {x y : EV}, okD n x = true → okD n y = true → (PyData.eqv (D x) (D y) = true ↔ x = y) := by
  intro n
  induction n with
  | zero =>
    intro x y hx hy
    cases x <;> first | (cases hx; done) | skip
    all_goals (cases y <;> first | (cases hy; done) | simp [D, PyData.eqv])
  | succ n ih =>
    intro x y hx hy
    have key := fun xs ys => eqvAll_iff (n := n) (fun x y => ih (x := x) (y := y)) (xs := xs) (ys := ys)
    cases x <;> first | (cases hx; done) | skip
    all_goals (cases y <;> first | (cases hy; done) | skip)
    all_goals first | (simp [D, PyData.eqv]; done) | skip
    · rename_i xs ys; simp only [D, PyData.eqv, EV.tup.injEq]; exact key xs ys hx hy
    · rename_i xs ys; simp only [D, PyData.eqv, EV.lst.injEq]; exact key xs ys hx hy
/-- a value as frozen data: an explicit list of frozen data is read -/
def froE (eh : Eh) : EV → EV
  | .ref a => match eh a with | some (.lst xs) => .lst xs | _ => .ref a
  | .scr ns => .lst (ns.map .int)
  | x => x
theorem dat_fro {eh : Eh} {n : Nat} {x : EV} (h : okB n (froE eh x) = true) : Dat eh x (D (froE eh x)) ∧ (D (froE eh x)).plain = true ∧ (D (froE eh x)).depth ≤ n := by
  have k := DOk.of h
  refine ⟨?_, k.p, k.z⟩
  have z := Dat.of eh k.d
  cases x with
  | ref a =>
    cases e : eh a with
    | none => have f : froE eh (.ref a) = .ref a := by simp [froE, e]
              rw [f] at k; exact absurd k.d (by simp [isD])
    | some o =>
      cases o with
      | lst xs => have f : froE eh (.ref a) = .lst xs := by simp [froE, e]
                  rw [f] at z ⊢; cases z with | lst hl hd => exact .ref e hl hd
      | dct xs => have f : froE eh (.ref a) = .ref a := by simp [froE, e]
                  rw [f] at k; exact absurd k.d (by simp [isD])
      | ins C fs => have f : froE eh (.ref a) = .ref a := by simp [froE, e]
                    rw [f] at k; exact absurd k.d (by simp [isD])
      | dN xs => have f : froE eh (.ref a) = .ref a := by simp [froE, e]
                 rw [f] at k; exact absurd k.d (by simp [isD])
  | scr ns =>
    have e : D (froE eh (.scr ns)) = .list (ns.map .int) := by
      show PyData.list (DL (ns.map .int)) = _
      rw [DL_map, List.map_map]; rfl
    rw [e]; exact .scr ns
  | _ => exact z
section
variable {eh : Eh} {q : KE} {x y x' y' : EV} {neg : Bool} {n m : Nat}
theorem beq_dec {α : Type} [BEq α] [LawfulBEq α] [DecidableEq α] (a b : α) : (a == b) = decide (a = b) := by
  by_cases h : a = b <;> simp [h]
theorem ceq_of {d e : PyData} (hd : Dat eh x d) (he : Dat eh y e) (pd : d.plain = true) (pe : e.plain = true) (z : min d.depth e.depth ≤ 60) (k : q (.bl (neg ^^ PyData.eqv d e)) eh) : cEq neg x y eh q := by
  unfold cEq
  split
  · cases hd; cases he; simpa [PyData.eqv, beq_dec] using k
  · cases hd; cases he; simpa [PyData.eqv, beq_dec] using k
  · cases hd; cases he; simpa [PyData.eqv, beq_dec] using k
  · cases hd; cases he; simpa [PyData.eqv, beq_dec] using k
  · exact ⟨d, e, hd, he, pd, pe, z, k⟩
/-- x == y of data -/
theorem eq_i (b : Bool) (ex : froE eh x = x') (ey : froE eh y = y') (hx : okD n x' = true) (hy : okD m y' = true) (hn : n ≤ 60) (hm : m ≤ n) (hb : b = true ↔ x' = y') (k : q (.bl (neg ^^ b)) eh) : cEq neg x y eh q := by
  subst ex; subst ey
  obtain ⟨d1, p1, z1⟩ := dat_fro (okB_of hx)
  obtain ⟨d2, p2, z2⟩ := dat_fro (okB_of hy)
  refine ceq_of d1 d2 p1 p2 (by omega) ?_
  have up : ∀ {m n : Nat} {x : EV}, m ≤ n → okD m x = true → okD n x = true := by
    intro m
    induction m with
    | zero => intro n x _ h; cases x <;> first | (cases h; done) | (cases n <;> rfl)
    | succ m ih =>
      intro n x l h
      obtain ⟨n, rfl⟩ : ∃ n', n = n' + 1 := ⟨n - 1, by omega⟩
      cases x <;> first | (cases h; done) | rfl | exact List.all_eq_true.mpr fun y hy => ih (by omega) (List.all_eq_true.mp h y hy)
  have e := (eqv_iff hx (up hm hy)).trans hb.symm
  have : PyData.eqv (D (froE eh x)) (D (froE eh y)) = b := by cases b <;> simp_all
  rw [this]; exact k
/-- the same data -/
theorem eqS_same (ex : froE eh x = x') (ey : froE eh y = x') (hx : okB n x' = true) (hn : n ≤ 60) (k : q (.bl (neg ^^ true)) eh) : cEq neg x y eh q := by
  obtain ⟨d1, p1, z1⟩ := dat_fro (eh := eh) (x := x) (by rw [ex]; exact hx)
  obtain ⟨d2, p2, z2⟩ := dat_fro (eh := eh) (x := y) (by rw [ey]; exact hx)
  rw [ex] at d1 p1 z1
  rw [ey] at d2 p2 z2
  refine ceq_of d1 d2 p1 p2 (by omega) ?_
  have : PyData.eqv (D x') (D x') = true := SeqAt.eqv_refl_plain _ p1
  rw [this]; exact k
end
/-! ### frozen data -/
theorem fz_okB {S : Addr → Bool} {eh : Eh} : ∀ {n k : Nat} {x : EV}, okB n x = true → fz S eh k x = x
  | _, 0, _, _ => rfl
  | n + 1, k + 1, .tup xs, h => by
    show EV.tup (xs.map (fz S eh k)) = _
    congr 1
    exact (List.map_congr_left fun y hy => fz_okB (n := n) (List.all_eq_true.mp (show xs.all (okB n) = true from h) y hy)).trans (List.map_id _)
  | n + 1, k + 1, .lst xs, h => by
    show EV.lst (xs.map (fz S eh k)) = _
    congr 1
    exact (List.map_congr_left fun y hy => fz_okB (n := n) (List.all_eq_true.mp (show xs.all (okB n) = true from h) y hy)).trans (List.map_id _)
  | 0, _ + 1, .tup _, h => by cases h
  | 0, _ + 1, .lst _, h => by cases h
  | _, _ + 1, .non, _ => rfl
  | _, _ + 1, .bl _, _ => rfl
  | _, _ + 1, .int _, _ => rfl
  | _, _ + 1, .str _, _ => rfl
  | n, _ + 1, .ty _, h => by cases n <;> cases h
  | n, _ + 1, .ref _, h => by cases n <;> cases h
  | n, _ + 1, .glo _, h => by cases n <;> cases h
  | n, _ + 1, .scr _, h => by cases n <;> cases h
  | n, _ + 1, .dct _, h => by cases n <;> cases h
  | n, _ + 1, .obj _ _, h => by cases n <;> cases h
  | n, _ + 1, .exc _ _, h => by cases n <;> cases h
  | n, _ + 1, .exa _ _ _, h => by cases n <;> cases h
/-- what stood stands -/
def Kp (eh eh' : Eh) : Prop := ∀ c, eh c ≠ none → eh' c = eh c
theorem Kp.refl {eh : Eh} : Kp eh eh := fun _ _ => rfl
theorem Kp.trans {eh eh1 eh2 : Eh} (a : Kp eh eh1) (b : Kp eh1 eh2) : Kp eh eh2 := fun c h => (b c (by rw [a c h]; exact h)).trans (a c h)
theorem Kp.new {eh : Eh} {p : Addr} {o : Option EO} (h : eh p = none) : Kp eh (eupd eh p o) := fun c hc => eupd_ne fun z => hc (z ▸ h)
theorem Kp.set {eh eh1 : Eh} {p : Addr} {o : Option EO} (k : Kp eh eh1) (h : eh p = none) : Kp eh (eupd eh1 p o) := fun c hc => (eupd_ne fun z => hc (by rw [z]; exact h)).trans (k c hc)
theorem Kp.dr {eh eh1 : Eh} (k : Kp eh eh1) : drE (nw eh) eh1 = eh := by
  funext c
  unfold drE nw
  cases e : eh c with
  | none => simp
  | some o => simp [k c (by rw [e]; simp), e]
section
variable {xc : XC} {eh eh' : Eh} {q : KE} {x y : EV} {F : FN} {xs : List EV} {S : Addr → Bool} {n : Nat} {L us vs : List EV}
theorem fin_data {eh1 : Eh} (k : Kp eh eh1) (b : okB n x = true) (h : q x eh) : q (fz (nw eh) eh1 9 x) (drE (nw eh) eh1) := by rw [fz_okB b, k.dr]; exact h
/-- an explicit new list of data, handed out -/
theorem fin_list {eh1 : Eh} {p : Addr} (k : Kp eh eh1) (hp : eh p = none) (e : eh1 p = some (.lst L)) (b : okB n (.lst L) = true) (h : q (.lst L) eh) : q (fz (nw eh) eh1 9 (.ref p)) (drE (nw eh) eh1) := by
  have e1 : fz (nw eh) eh1 9 (.ref p) = .lst (L.map (fz (nw eh) eh1 8)) := by
    simp only [fz, nw, hp, e, Option.isNone_none, if_true]
  have e2 : L.map (fz (nw eh) eh1 8) = L := by
    cases n with
    | zero => cases b
    | succ n => exact (List.map_congr_left fun y hy => fz_okB (n := n) (List.all_eq_true.mp (show L.all (okB n) = true from b) y hy)).trans (List.map_id _)
  rw [e1, e2, k.dr]; exact h
theorem okB_map {α : Type} {c : α → EV} {l : List α} (h : ∀ a ∈ l, okB n (c a) = true) : okB (n + 1) (.lst (l.map c)) = true := List.all_eq_true.mpr fun y hy => by obtain ⟨a, ha, rfl⟩ := List.mem_map.mp hy; exact h a ha
theorem okD_map {α : Type} {c : α → EV} {l : List α} (h : ∀ a ∈ l, okD n (c a) = true) : okD (n + 1) (.lst (l.map c)) = true := List.all_eq_true.mpr fun y hy => by obtain ⟨a, ha, rfl⟩ := List.mem_map.mp hy; exact h a ha
theorem okD_tup {α : Type} {c : α → EV} {l : List α} (h : ∀ a ∈ l, okD n (c a) = true) : okD (n + 1) (.tup (l.map c)) = true := List.all_eq_true.mpr fun y hy => by obtain ⟨a, ha, rfl⟩ := List.mem_map.mp hy; exact h a ha
theorem okD_ints (l : List Int) : okD (n + 1) (.tup (l.map .int)) = true := okD_tup fun _ _ => by cases n <;> rfl
/-! ### sources -/
theorem fro_seq (h : froE eh x = .lst L) : seqE eh x = some L := by
  cases x with
  | lst => cases h; rfl
  | scr ns => cases h; rfl
  | ref a =>
    cases e : eh a with
    | none => simp [froE, e] at h
    | some o => cases o with
      | lst ys => simp [froE, e] at h; subst h; simp only [seqE, e]
      | dct _ => simp [froE, e] at h
      | ins _ _ => simp [froE, e] at h
      | dN _ => simp [froE, e] at h
  | _ => cases h
theorem fro_src (h : froE eh x = .lst L) : ∃ ok, srcL eh x = some (L, ok) ∧ ok eh ∧ ∀ eh', Kp eh eh' → ok eh' := by
  cases x with
  | lst => cases h; exact ⟨_, rfl, trivial, fun _ _ => trivial⟩
  | scr ns => cases h; exact ⟨_, rfl, trivial, fun _ _ => trivial⟩
  | ref a =>
    cases e : eh a with
    | none => simp [froE, e] at h
    | some o => cases o with
      | lst ys => simp [froE, e] at h; subst h; exact ⟨_, by simp only [srcL, e], e, fun eh' k => (k a (by rw [e]; simp)).trans e⟩
      | dct _ => simp [froE, e] at h
      | ins _ _ => simp [froE, e] at h
      | dN _ => simp [froE, e] at h
  | _ => cases h
theorem fro_ref {a : Addr} (h : eh a = some (.lst L)) : froE eh (.ref a) = .lst L := by simp [froE, h]
theorem walkT_i {qi : List EV → (Eh → Prop) → Eh → Prop} (k : qi L (fun _ => True) eh) : ∃ xs ok, walkE eh (.tup L) = some (xs, ok) ∧ qi xs ok eh := ⟨_, _, rfl, k⟩
theorem walkS_i {qi : List EV → (Eh → Prop) → Eh → Prop} (k : qi L (fun _ => True) eh) : ∃ xs ok, walkE eh (.lst L) = some (xs, ok) ∧ qi xs ok eh := ⟨_, _, rfl, k⟩
theorem intx_i {j : Int} {P : Int → Prop} (h : P j) : ∃ i, EV.int j = .int i ∧ P i := ⟨j, rfl, h⟩
theorem asgx_i {g : Tg} {es es' : Es} {P : Es → Prop} (e : asg g x es = some es') (h : P es') : ∃ es', asg g x es = some es' ∧ P es' := ⟨es', e, h⟩
theorem lenL_i (h : froE eh x = .lst L) (k : q (.int L.length) eh) : bLen [x] eh q := len_i (fro_seq h) k
theorem lenT_i (k : q (.int L.length) eh) : bLen [.tup L] eh q := len_i rfl k
theorem lenF_i (k : q (.int L.length) eh) : bLen [.lst L] eh q := len_i rfl k
theorem tru_bl {b : Bool} {P : Bool → Prop} (k : P b) : ∃ k', truE eh (.bl b) = some k' ∧ P k' := ⟨b, rfl, k⟩
theorem slT_i {lo hi : Option Int} (k : q (.tup (cutE L lo hi)) eh) : oSlice (.tup L) lo hi eh q := ⟨Classical.em _, k⟩
theorem tupleL_i (k : q (.tup L) eh) : bTuple [.lst L] eh q := tuple_i rfl k
/-! ### membership -/
theorem rev_i {es : Es} {a : ME} {xc : XC} (h : a xc es eh fun x eh1 => ∃ xs, lstE eh1 x = some xs ∧ q (.lst xs.reverse) eh1) : mRev a xc es eh q := h
theorem addF_i (hz : us.length + vs.length ≤ sizeLine) (k : q (.lst (us ++ vs)) eh) : oAdd (.lst us) (.lst vs) eh q := ⟨us, vs, rfl, rfl, hz, k⟩
end
/-! ### repr of data that is not too long -/
def chS (x : Str) : Bool := x.cps.toList.all fun c => decide (c < 16 ^ 8)
def okS : Nat → EV → Bool
  | _, .non => true
  | _, .bl _ => true
  | _, .int i => decide (i.natAbs < 10 ^ 99)
  | _, .str x => chS x
  | n + 1, .tup xs => xs.all (okS n)
  | n + 1, .lst xs => xs.all (okS n)
  | _, _ => false
structure Shw (n : Nat) (x : EV) : Prop where
  b : okB n x = true
  l : (D x).leavesShort 100 = true
  s : (D x).showable = true
  d : (D x).hasDict = false
theorem Shw.all {n : Nat} : ∀ {xs : List EV}, (∀ x ∈ xs, Shw n x) → xs.all (okB n) = true ∧ PyData.leavesShortAll 100 (DL xs) = true ∧ PyData.showableAll (DL xs) = true ∧ PyData.hasDictAll (DL xs) = false
  | [], _ => ⟨rfl, rfl, rfl, rfl⟩
  | x :: xs, h => by
    have a := h x (by simp)
    obtain ⟨b1, b2, b3, b4⟩ := Shw.all (xs := xs) fun y hy => h y (by simp [hy])
    exact ⟨by simp only [List.all_cons, a.b, b1, Bool.and_self], by simp only [DL, PyData.leavesShortAll, a.l, b2, Bool.and_self], by simp only [DL, PyData.showableAll, a.s, b3, Bool.and_self], by simp only [DL, PyData.hasDictAll, a.d, b4, Bool.or_self]⟩
theorem Shw.int {n : Nat} {i : Int} (h : i.natAbs < 10 ^ 99) : Shw n (.int i) := by
  refine ⟨by cases n <;> rfl, ?_, ?_, by simp only [D, PyData.hasDict]⟩
  · have e := int_text_length_le10 (k := 99) (by decide) h
    simp only [D, PyData.leavesShort, decide_eq_true_eq]
    show (Str.ofString (toString i)).length ≤ 100
    rw [PySem.ofString_length]; exact e
  · simp only [D, PyData.showable, decide_eq_true_eq]
    by_cases z : i.natAbs = 0
    · rw [z]; decide
    · refine (Nat.log2_lt z).mpr (Nat.lt_trans h (by decide +kernel))
theorem Shw.of : ∀ {n : Nat} {x : EV}, okS n x = true → Shw n x
  | n, .non, _ => ⟨by cases n <;> rfl, rfl, rfl, rfl⟩
  | n, .bl _, _ => ⟨by cases n <;> rfl, rfl, rfl, rfl⟩
  | n, .int i, h => .int (by cases n <;> simpa [okS] using h)
  | n, .str x, h => ⟨by cases n <;> rfl, by cases n <;> exact h, rfl, rfl⟩
  | n + 1, .tup xs, h => by
    obtain ⟨a, b, c, d⟩ := Shw.all (n := n) (xs := xs) fun y hy => Shw.of (List.all_eq_true.mp (show xs.all (okS n) = true from h) y hy)
    exact ⟨a, b, c, d⟩
  | n + 1, .lst xs, h => by
    obtain ⟨a, b, c, d⟩ := Shw.all (n := n) (xs := xs) fun y hy => Shw.of (List.all_eq_true.mp (show xs.all (okS n) = true from h) y hy)
    exact ⟨a, b, c, d⟩
  | 0, .tup _, h => by cases h
  | 0, .lst _, h => by cases h
  | n, .ty _, h => by cases n <;> cases h
  | n, .ref _, h => by cases n <;> cases h
  | n, .glo _, h => by cases n <;> cases h
  | n, .scr _, h => by cases n <;> cases h
  | n, .dct _, h => by cases n <;> cases h
  | n, .obj _ _, h => by cases n <;> cases h
  | n, .exc _ _, h => by cases n <;> cases h
  | n, .exa _ _ _, h => by cases n <;> cases h
  | n, .dn _, h => by cases n <;> cases h
/-! ### places, draws -/
theorem fro_same {eh : Eh} {L : List EV} : froE eh (.lst L) = .lst L := rfl
theorem fin_rg {eh : Eh} {a : Addr} {o : EO} {x : EV} {n : Nat} {q : KE} (h : eh a ≠ none) (b : okB n x = true) (k : q x (eupd eh a (some o))) : q (fz (nw eh) (eupd eh a (some o)) 9 x) (drE (nw eh) (eupd eh a (some o))) := by
  rw [fz_okB b, drE_same h]; exact k
theorem at_cells {α : Type} {f : α → EV} {cs : List α} {j : Nat} {c : α} (h : cs[j]? = some c) : atI (cs.map f) (j : Int) = some (f c) := by
  unfold atI ixN
  have hl : j < (cs.map f).length := by rw [List.length_map]; exact (List.getElem?_eq_some_iff.mp h).1
  rw [if_pos (Int.natCast_nonneg j), Int.toNat_natCast, if_pos (Int.ofNat_lt.mpr hl)]
  simp [h]
theorem at_last {xs : List EV} {x : EV} : atI (xs ++ [x]) (-1) = some x := by
  unfold atI ixN
  rw [if_neg (by decide)]
  simp only [List.length_append, List.length_cons, List.length_nil]
  rw [if_pos (by omega)]
  simp
  have : ((-1 : Int) + ((xs.length : Int) + 1)).toNat = xs.length := by omega
  simp [this]
theorem okD_str {n : Nat} {w : Str} : okD n (.str w) = true := by cases n <;> rfl
theorem ints_inj : ∀ {a b : List Int}, a.map EV.int = b.map EV.int → a = b
  | [], [], _ => rfl
  | [], _ :: _, e => by cases e
  | _ :: _, [], e => by cases e
  | x :: a, y :: b, e => by
    rw [List.map_cons, List.map_cons, List.cons.injEq, EV.int.injEq] at e
    rw [e.1, ints_inj e.2]
end VM

namespace LW
open PySem PySem.Spec PyProof.Rows L2 VM
def top (i : Nat) : Stmt := PySem.Challenge.pw_farreads_k12_needed_cells.main.body.getD i (.Pass ⟨0, 0, 0, 0⟩)
abbrev prg : PySem.Program := PySem.W.OpenLaw.prog PySem.Challenge.rw_farreads_k12_needed_cells
def errs : List ErrD := []
/-! ### _law_rng -/
def st__law_rng : Stmt := top 35
def d__law_rng : He.DefD := ⟨("_law_rng", none), "_law_rng", "_law_rng", defArgs st__law_rng, defBody st__law_rng, defScope st__law_rng, [], []⟩
def N__law_rng : List Str := ["_law_script", "_law_digits", "_law_seed", "_law_number", "_law_far"]
def bd__law_rng_1 : MS := (sSeq (sSet 4 (mCB bAbs (aCons (mVar 3) aNil)))
    (sSeq (sIf (tVal (mOp oGe (mVar 4) (mOp oPow (mC (.int 10)) (mC (.int 18))))) (sSet 1 (mOp oAdd (mOp oMul (mVar 1) (mOp oPow (mC (.int 10)) (mC (.int 60)))) (mOp oMod (mCB bInt (aCons (mVar 4) aNil)) (mOp oPow (mC (.int 10)) (mC (.int 60)))))) sNext)
    (sSet 2 (mOp oMod (mCB bInt (aCons (mOp oAdd (mOp oAdd (mOp oMul (mVar 2) (mC (.int 1000003))) (mOp oMod (mCB bInt (aCons (mVar 3) aNil)) (mC (.int 2305843009213693921)))) (mC (.int 7))) aNil)) (mC (.int 2305843009213693951))))))
def ms__law_rng : MS := (sSeq (sAsg (.tp [(.nm 1), (.nm 2)]) (mTup (aCons (mC (.int 0)) (aCons (mC (.int 88675123)) aNil))))
    (sSeq (sFor (iAny (mSl oSlice (mVar 0) mNo (mPt (mC (.int 63))))) (.nm 3) bd__law_rng_1)
    (sRet (mLstR (aCons (mVar 1) (aCons (mVar 2) (aCons (mC (.int 0)) aNil)))))))
def fn__law_rng : FN := fnOf 5 ms__law_rng
/-! ### _law_draw -/
def st__law_draw : Stmt := top 36
def d__law_draw : He.DefD := ⟨("_law_draw", none), "_law_draw", "_law_draw", defArgs st__law_draw, defBody st__law_draw, defScope st__law_draw, [], []⟩
def N__law_draw : List Str := ["_law_rng_here", "_law_limit", "_law_blend", "_law_digit"]
def ms__law_draw : MS := (sSeq (sIf (tVal (mOp oGt (mOp oIx (mVar 0) (mC (.int 0))) (mC (.int 0)))) (sSeq (sSet 3 (mOp oMod (mCB bInt (aCons (mOp oIx (mVar 0) (mC (.int 0))) aNil)) (mVar 1)))
    (sSeq (sLPutN (mVar 0) (mC (.int 0)) (mOp oDiv (mOp oIx (mVar 0) (mC (.int 0))) (mVar 1)))
    (sRet (mVar 3)))) sNext)
    (sSeq (sLPutN (mVar 0) (mC (.int 2)) (mOp oAdd (mOp oIx (mVar 0) (mC (.int 2))) (mC (.int 1))))
    (sSeq (sSet 2 (mOp oMod (mCB bInt (aCons (mOp oPow (mOp oAdd (mOp oIx (mVar 0) (mC (.int 1))) (mOp oMul (mC (.int 998244353)) (mOp oIx (mVar 0) (mC (.int 2))))) (mC (.int 3))) aNil)) (mC (.int 162259276829213363391578010288127))))
    (sSeq (sSet 2 (mOp oMod (mCB bInt (aCons (mOp oPow (mOp oAdd (mVar 2) (mOp oMul (mC (.int 32452843)) (mOp oIx (mVar 0) (mC (.int 2))))) (mC (.int 3))) aNil)) (mC (.int 170141183460469231731687303715884105727))))
    (sRet (mOp oMod (mCB bInt (aCons (mOp oDiv (mVar 2) (mC (.int 1048576))) aNil)) (mVar 1)))))))
def fn__law_draw : FN := fnOf 4 ms__law_draw
/-! ### _law_mixed -/
def st__law_mixed : Stmt := top 37
def d__law_mixed : He.DefD := ⟨("_law_mixed", none), "_law_mixed", "_law_mixed", defArgs st__law_mixed, defBody st__law_mixed, defScope st__law_mixed, [], []⟩
def N__law_mixed : List Str := ["_law_rng_here", "_law_some", "_law_left", "_law_turned"]
def bd__law_mixed_1 : MS := (sExpr (mBM isLst oAppend (mVar 3) (aCons (mBM isLst oPop (mVar 2) (aCons (mFz 9 (mCall fn__law_draw 2 [] (aCons (mVar 0) (aCons (mCB bLen (aCons (mVar 2) aNil)) aNil)))) aNil)) aNil)))
def ms__law_mixed : MS := (sSeq (sPar 2 3 (aCons (mCB bListR (aCons (mVar 1) aNil)) (aCons (mLstR aNil) aNil)))
    (sSeq (sWhile (tVal (mOp (cEq true) (mVar 2) (mLst aNil))) bd__law_mixed_1)
    (sRet (mVar 3))))
def fn__law_mixed : FN := fnOf 4 ms__law_mixed
/-! ### _law_vector -/
def st__law_vector : Stmt := top 38
def d__law_vector : He.DefD := ⟨("_law_vector", none), "_law_vector", "_law_vector", defArgs st__law_vector, defBody st__law_vector, defScope st__law_vector, [], []⟩
def N__law_vector : List Str := ["_law_rng_here", "_law_dims", "_law_wide", "_law_some", "_law_axis"]
def bd__law_vector_1 : MS := (sExpr (mBM isLst oAppend (mVar 3) (aCons (mOp oIx (mLst (aCons (mC (.int 0)) (aCons (mC (.int 1)) (aCons (mFz 9 (mCall fn__law_draw 2 [] (aCons (mVar 0) (aCons (mOp oAdd (mVar 2) (mC (.int 1))) aNil)))) (aCons (mOp oSub (mC (.int 0)) (mFz 9 (mCall fn__law_draw 2 [] (aCons (mVar 0) (aCons (mOp oAdd (mVar 2) (mC (.int 1))) aNil))))) aNil))))) (mFz 9 (mCall fn__law_draw 2 [] (aCons (mVar 0) (aCons (mC (.int 4)) aNil))))) aNil)))
def ms__law_vector : MS := (sSeq (sSet 3 (mLstR aNil))
    (sSeq (sFor (iRange1 (aCons (mVar 1) aNil)) (.nm 4) bd__law_vector_1)
    (sRet (mCB bTuple (aCons (mVar 3) aNil)))))
def fn__law_vector : FN := fnOf 5 ms__law_vector
/-! ### _law_made_rows -/
def st__law_made_rows : Stmt := top 39
def d__law_made_rows : He.DefD := ⟨("_law_made_rows", none), "_law_made_rows", "_law_made_rows", defArgs st__law_made_rows, defBody st__law_made_rows, defScope st__law_made_rows, [], []⟩
def N__law_made_rows : List Str := ["_law_rng_here", "_law_dims", "_law_many", "_law_most", "_law_wide", "_law_words", "_law_rows", "_law_turn", "_law_word", "_law_number", "_law_some", "_law_factor"]
def ce__law_made_rows_1 : ME := (mOp oAdd (mC (.str "row")) (mSl oSlice (mVar 8) mNo (mPt (mC (.int 5)))))
def ce__law_made_rows_2 : ME := (mTup (aCons (mVar 8) (aCons (mOp oSub (mFz 9 (mCall fn__law_draw 2 [] (aCons (mVar 0) (aCons (mC (.int 199)) aNil)))) (mC (.int 99))) (aCons (mLstR aNil) aNil))))
def bd__law_made_rows_3 : MS := (sSeq (sAsg (.tp [(.nm 8), (.nm 9), (.nm 10)]) (mOp oIx (mVar 6) (mFz 9 (mCall fn__law_draw 2 [] (aCons (mVar 0) (aCons (mVar 2) aNil))))))
    (sSeq (sSet 11 (mOp oIx (mLst (aCons (mC (.int 1)) (aCons (mUn oNeg (mC (.int 1))) (aCons (mOp oAdd (mC (.int 1)) (mFz 9 (mCall fn__law_draw 2 [] (aCons (mVar 0) (aCons (mC (.int 9)) aNil))))) (aCons (mOp oSub (mOp oSub (mC (.int 0)) (mC (.int 1))) (mFz 9 (mCall fn__law_draw 2 [] (aCons (mVar 0) (aCons (mC (.int 9)) aNil))))) aNil))))) (mFz 9 (mCall fn__law_draw 2 [] (aCons (mVar 0) (aCons (mC (.int 4)) aNil))))))
    (sExpr (mBM isLst oAppend (mVar 10) (aCons (mTup (aCons (mOp oIx (mVar 5) (mFz 9 (mCall fn__law_draw 2 [] (aCons (mVar 0) (aCons (mVar 2) aNil))))) (aCons (mFz 9 (mCall fn__law_vector 3 [] (aCons (mVar 0) (aCons (mVar 1) (aCons (mVar 4) aNil))))) (aCons (mVar 11) aNil)))) aNil)))))
def ms__law_made_rows : MS := (sSeq (sSet 5 (mSl oSlice (mFz 9 (mCall fn__law_mixed 2 [] (aCons (mVar 0) (aCons (mLst (aCons (mC (.str "a")) (aCons (mC (.str "b")) (aCons (mC (.str "c")) (aCons (mC (.str "ab")) (aCons (mC (.str "zz")) (aCons (mC (.str "readhere")) aNil))))))) aNil)))) mNo (mPt (mVar 2))))
    (sSeq (sIf (tVal (mOp (cEq false) (mFz 9 (mCall fn__law_draw 2 [] (aCons (mVar 0) (aCons (mC (.int 3)) aNil)))) (mC (.int 0)))) (sSet 5 (mComp (iAny (mVar 5)) (.nm 8) tYesE ce__law_made_rows_1 [8])) sNext)
    (sSeq (sSet 6 (mComp (iAny (mVar 5)) (.nm 8) tYesE ce__law_made_rows_2 [8]))
    (sSeq (sFor (iRange1 (aCons (mFz 9 (mCall fn__law_draw 2 [] (aCons (mVar 0) (aCons (mOp oAdd (mVar 3) (mC (.int 1))) aNil)))) aNil)) (.nm 7) bd__law_made_rows_3)
    (sRet (mVar 6))))))
def fn__law_made_rows : FN := fnOf 12 ms__law_made_rows
/-! ### _law_small -/
def st__law_small : Stmt := top 40
def d__law_small : He.DefD := ⟨("_law_small", none), "_law_small", "_law_small", defArgs st__law_small, defBody st__law_small, defScope st__law_small, [], []⟩
def N__law_small : List Str := ["_law_rng_here", "_law_dims", "_law_many", "_law_most"]
def ms__law_small : MS := (sSeq (sSet 1 (mOp oAdd (mC (.int 1)) (mFz 9 (mCall fn__law_draw 2 [] (aCons (mVar 0) (aCons (mC (.int 2)) aNil))))))
    (sSeq (sIf (tVal (mOp (cEq false) (mVar 1) (mC (.int 1)))) (sSeq (sAsg (.tp [(.nm 2), (.nm 3)]) (mOp oIx (mLst (aCons (mTup (aCons (mC (.int 4)) (aCons (mC (.int 8)) aNil))) (aCons (mTup (aCons (mC (.int 6)) (aCons (mC (.int 12)) aNil))) aNil))) (mFz 9 (mCall fn__law_draw 2 [] (aCons (mVar 0) (aCons (mC (.int 2)) aNil))))))
    (sRet (mTup (aCons (mVar 1) (aCons (mFz 9 (mCall fn__law_made_rows 5 [] (aCons (mVar 0) (aCons (mC (.int 1)) (aCons (mOp oAdd (mC (.int 1)) (mFz 9 (mCall fn__law_draw 2 [] (aCons (mVar 0) (aCons (mVar 2) aNil))))) (aCons (mVar 3) (aCons (mOp oIx (mLst (aCons (mC (.int 2)) (aCons (mC (.int 5)) aNil))) (mFz 9 (mCall fn__law_draw 2 [] (aCons (mVar 0) (aCons (mC (.int 2)) aNil))))) aNil))))))) aNil))))) sNext)
    (sRet (mTup (aCons (mVar 1) (aCons (mFz 9 (mCall fn__law_made_rows 5 [] (aCons (mVar 0) (aCons (mC (.int 2)) (aCons (mOp oAdd (mC (.int 1)) (mFz 9 (mCall fn__law_draw 2 [] (aCons (mVar 0) (aCons (mC (.int 3)) aNil))))) (aCons (mOp oIx (mLst (aCons (mC (.int 6)) (aCons (mC (.int 12)) aNil))) (mOp oDiv (mFz 9 (mCall fn__law_draw 2 [] (aCons (mVar 0) (aCons (mC (.int 4)) aNil)))) (mC (.int 3)))) (aCons (mC (.int 2)) aNil))))))) aNil))))))
def fn__law_small : FN := fnOf 4 ms__law_small
/-! ### is_name -/
def st_is_name : Stmt := top 15
def d_is_name : He.DefD := ⟨("is_name", none), "is_name", "is_name", defArgs st_is_name, defBody st_is_name, defScope st_is_name, [], []⟩
def N_is_name : List Str := ["word", "sign"]
def ce_is_name_1 : ME := (mOp (cIn false) (mVar 1) (mC (.str "abcdefghijklmnopqrstuvwxyz")))
def ms_is_name : MS := (sRet (mAnd (mChain oLe oLe (mC (.int 1)) (mCB bLen (aCons (mVar 0) aNil)) (mC (.int 8))) (mCB bAll (aCons (mComp (iAny (mVar 0)) (.nm 1) tYesE ce_is_name_1 [1]) aNil))))
def fn_is_name : FN := fnOf 2 ms_is_name
/-! ### is_read -/
def st_is_read : Stmt := top 16
def d_is_read : He.DefD := ⟨("is_read", none), "is_read", "is_read", defArgs st_is_read, defBody st_is_read, defScope st_is_read, [], []⟩
def N_is_read : List Str := ["read", "dimensions", "table", "vector", "factor"]
def ms_is_read : MS := (sSeq (sAsg (.tp [(.nm 2), (.nm 3), (.nm 4)]) (mVar 0))
    (sRet (mAnd (mFz 9 (mCall fn_is_name 1 [] (aCons (mVar 2) aNil))) (mAnd (mOp (cEq false) (mCB bLen (aCons (mVar 3) aNil)) (mVar 1)) (mOp (cEq true) (mVar 4) (mC (.int 0)))))))
def fn_is_read : FN := fnOf 5 ms_is_read
/-! ### check_system -/
def st_check_system : Stmt := top 17
def d_check_system : He.DefD := ⟨("check_system", none), "check_system", "check_system", defArgs st_check_system, defBody st_check_system, defScope st_check_system, [], []⟩
def N_check_system : List Str := ["dimensions", "tables", "modulus", "found", "many", "row", "name", "constant", "reads", "is_odd", "table", "vector", "factor", "read"]
def ce_check_system_1 : ME := (mFz 9 (mCall fn_is_read 2 [] (aCons (mVar 13) (aCons (mVar 0) aNil))))
def bd_check_system_2 : MS := (sSeq (sSet 4 (mOp oAdd (mVar 4) (mCB bLen (aCons (mVar 8) aNil))))
    (sSeq (sSet 9 (mOr (mNot (mFz 9 (mCall fn_is_name 1 [] (aCons (mVar 6) aNil)))) (mOr (mOp (cIn false) (mVar 6) (mVar 3)) (mOp oGt (mVar 4) (mC (.int 12))))))
    (sSeq (sIf (tOr (tTru (mVar 9)) (tNot (tTru (mCB bAll (aCons (mComp (iAny (mVar 8)) (.nm 13) tYesE ce_check_system_1 [13]) aNil))))) sNever sNext)
    (sDPutE (mVar 3) (mVar 6) (mC (.bl true))))))
def ce_check_system_3 : ME := (mOp (cIn false) (mVar 10) (mVar 3))
def bd_check_system_4 : MS := (sIf (tNot (tTru (mCB bAll (aCons (mComp (iAny (mVar 8)) (.tp [(.nm 10), (.nm 11), (.nm 12)]) tYesE ce_check_system_3 [10, 11, 12]) aNil)))) sNever sNext)
def ms_check_system : MS := (sSeq (sIf (tNot (tVal (mChain oLe oLe (mC (.int 1)) (mVar 0) (mC (.int 3))))) sNever sNext)
    (sSeq (sIf (tNot (tVal (mChain oLe oLe (mC (.int 1)) (mCB bLen (aCons (mVar 1) aNil)) (mC (.int 6))))) sNever sNext)
    (sSeq (sAsg (.tp [(.nm 3), (.nm 4)]) (mTup (aCons mDNew (aCons (mC (.int 0)) aNil))))
    (sSeq (sFor (iEnumM (aCons (mVar 1) aNil)) (.tp [(.nm 5), (.tp [(.nm 6), (.nm 7), (.nm 8)])]) bd_check_system_2)
    (sSeq (sFor (iEnumM (aCons (mVar 1) aNil)) (.tp [(.nm 5), (.tp [(.nm 6), (.nm 7), (.nm 8)])]) bd_check_system_4)
    (sIf (tVal (mOp oLt (mVar 2) (mC (.int 2)))) sNever sNext))))))
def fn_check_system : FN := fnOf 14 ms_check_system
/-! ### System.__init__ -/
def st_System_init : Stmt := (clB (top 22)).getD 0 (.Pass ⟨0, 0, 0, 0⟩)
def d_System_init : He.DefD := ⟨("System", some "__init__"), "__init__", "System.__init__", defArgs st_System_init, defBody st_System_init, defScope st_System_init, [(.int 1000003)], []⟩
def N_System_init : List Str := ["self", "dimensions", "tables", "modulus", "name", "constant", "reads", "number"]
def bd_System_init_1 : MS := (sDPutE (mFld "System" "kept_tables" (mVar 0)) (mVar 4) (mTup (aCons (mVar 5) (aCons (mCB bTuple (aCons (mVar 6) aNil)) aNil))))
def ce_System_init_2 : ME := (mTup (aCons (mVar 4) (aCons (mVar 7) aNil)))
def ms_System_init : MS := (sSeq (sExpr (mFz 9 (mCall fn_check_system 3 [] (aCons (mVar 1) (aCons (mVar 2) (aCons (mVar 3) aNil))))))
    (sSeq (sFldE "System" "dimension_count" (mVar 0) (mVar 1))
    (sSeq (sFldE "System" "kept_modulus" (mVar 0) (mVar 3))
    (sSeq (sFldE "System" "kept_tables" (mVar 0) mDNew)
    (sSeq (sFor (iAny (mSortK0 (mVar 2))) (.tp [(.nm 4), (.nm 5), (.nm 6)]) bd_System_init_1)
    (sFzF 0 "System" "kept_tables" 9 (sFldE "System" "named_reads" (mVar 0) (mCB bTuple (aCons (mComp2 (iItemsM (mFld "System" "kept_tables" (mVar 0))) (.tp [(.nm 4), (.tp [(.nm 5), (.nm 6)])]) tYesE (iRange1 (aCons (mCB bLen (aCons (mVar 6) aNil)) aNil)) (.nm 7) tYesE ce_System_init_2 [4, 5, 6, 7] [7]) aNil)))))))))
def fn_System_init : FN := fnOf 8 ms_System_init
/-! ### _law_point -/
def st__law_point : Stmt := top 41
def d__law_point : He.DefD := ⟨("_law_point", none), "_law_point", "_law_point", defArgs st__law_point, defBody st__law_point, defScope st__law_point, [], []⟩
def N__law_point : List Str := ["_law_rng_here", "_law_dims", "_law_most", "_law_axis"]
def ce__law_point_1 : ME := (mFz 9 (mCall fn__law_draw 2 [] (aCons (mVar 0) (aCons (mVar 2) aNil))))
def ms__law_point : MS := (sSeq (sSet 2 (mOp oIx (mOp oIx (mLst (aCons (mLst (aCons (mC (.int 3)) (aCons (mC (.int 31)) (aCons (mC (.int 101)) aNil)))) (aCons (mLst (aCons (mC (.int 3)) (aCons (mC (.int 7)) (aCons (mC (.int 7)) aNil)))) aNil))) (mOp oSub (mVar 1) (mC (.int 1)))) (mFz 9 (mCall fn__law_draw 2 [] (aCons (mVar 0) (aCons (mC (.int 3)) aNil))))))
    (sRet (mCB bTuple (aCons (mComp (iRange1 (aCons (mVar 1) aNil)) (.nm 3) tYesE ce__law_point_1 [3]) aNil))))
def fn__law_point : FN := fnOf 4 ms__law_point
/-! ### System.names -/
def st_System_names : Stmt := (clB (top 22)).getD 3 (.Pass ⟨0, 0, 0, 0⟩)
def p_System_names : GetD := ⟨"System", "names", "System.names", defArgs st_System_names, defBody st_System_names, defScope st_System_names⟩
def N_System_names : List Str := ["self"]
def ms_System_names : MS := (sRet (mCB bListD (aCons (mFld "System" "kept_tables" (mVar 0)) aNil)))
def fn_System_names : FN := fnOf 1 ms_System_names
/-! ### _law_from -/
def st__law_from : Stmt := top 42
def d__law_from : He.DefD := ⟨("_law_from", none), "_law_from", "_law_from", defArgs st__law_from, defBody st__law_from, defScope st__law_from, [], []⟩
def N__law_from : List Str := ["_law_rows", "_law_here", "_law_inner", "_law_word", "_law_number", "_law_some", "_law_target", "_law_vector_here", "_law_factor", "_law_there", "_law_one", "_law_step"]
def ce__law_from_1 : ME := (mOp oSub (mVar 10) (mVar 11))
def bd__law_from_2 : MS := (sSeq (sSet 9 (mCB bTuple (aCons (mComp (iZipM (aCons (mOp oIx (mVar 1) (mC (.int 1))) (aCons (mVar 7) aNil))) (.tp [(.nm 10), (.nm 11)]) tYesE ce__law_from_1 [10, 11]) aNil)))
    (sIf (tVal (mOp oGe (mCB bMin (aCons (mVar 9) aNil)) (mC (.int 0)))) (sExpr (mBM isLst oAppend (mVar 2) (aCons (mTup (aCons (mVar 6) (aCons (mVar 9) aNil))) aNil))) sNext))
def bd__law_from_3 : MS := (sFor (iAny (mIf (tVal (mOp (cEq false) (mVar 3) (mOp oIx (mVar 1) (mC (.int 0))))) (mVar 5) (mLst aNil))) (.tp [(.nm 6), (.nm 7), (.nm 8)]) bd__law_from_2)
def ms__law_from : MS := (sSeq (sSet 2 (mLstR aNil))
    (sSeq (sFor (iAny (mVar 0)) (.tp [(.nm 3), (.nm 4), (.nm 5)]) bd__law_from_3)
    (sRet (mVar 2))))
def fn__law_from : FN := fnOf 12 ms__law_from
/-! ### _law_is_below -/
def st__law_is_below : Stmt := top 43
def d__law_is_below : He.DefD := ⟨("_law_is_below", none), "_law_is_below", "_law_is_below", defArgs st__law_is_below, defBody st__law_is_below, defScope st__law_is_below, [], []⟩
def N__law_is_below : List Str := ["_law_one", "_law_two", "_law_a", "_law_b"]
def ms__law_is_below : MS := (sRet (mOp (cEq false) (mComp (iZipM (aCons (mVar 0) (aCons (mVar 1) aNil))) (.tp [(.nm 2), (.nm 3)]) (tVal (mOp oGt (mVar 2) (mVar 3))) (mC (.int 1)) [2, 3]) (mLst aNil)))
def fn__law_is_below : FN := fnOf 4 ms__law_is_below
/-! ### _law_lengths -/
def st__law_lengths : Stmt := top 44
def d__law_lengths : He.DefD := ⟨("_law_lengths", none), "_law_lengths", "_law_lengths", defArgs st__law_lengths, defBody st__law_lengths, defScope st__law_lengths, [], []⟩
def N__law_lengths : List Str := ["_law_rows", "_law_begin", "_law_parents", "_law_line", "_law_inner", "_law_users", "_law_left", "_law_ends", "_law_lengths_here", "_law_here", "_law_other", "_law_user", "_law_above"]
def bd__law_lengths_1 : MS := (sSeq (sIf (tAnd (tVal (mOp (cEq false) (mOp oIx (mVar 12) (mC (.int 0))) (mOp oIx (mVar 10) (mC (.int 0))))) (tTru (mFz 9 (mCall fn__law_is_below 2 [] (aCons (mOp oIx (mVar 12) (mC (.int 1))) (aCons (mOp oIx (mVar 10) (mC (.int 1))) aNil)))))) (sRet (mC .non)) sNext)
    (sSet 12 (mOp oIxN (mVar 2) (mVar 12))))
def bd__law_lengths_2 : MS := (sSeq (sExpr (mBM isLst oAppend (mSetdN (mVar 5) (mVar 10) (mLstR aNil)) (aCons (mVar 9) aNil)))
    (sIf (tVal (mOp (cInN true) (mVar 10) (mVar 2))) (sSeq (sSet 12 (mVar 9))
    (sSeq (sWhile (tVal (mOp (cIsN true) (mVar 12) (mC .non))) bd__law_lengths_1)
    (sSeq (sDPutN (mVar 2) (mVar 10) (mVar 9))
    (sExpr (mBM isLst oAppend (mVar 3) (aCons (mVar 10) aNil)))))) sNext))
def bd__law_lengths_3 : MS := (sSeq (sSet 9 (mBM isLst oPop (mVar 3) (aCons (mC (.int 0)) aNil)))
    (sSeq (sDPutN (mVar 4) (mVar 9) (mSortSetN (mFz 9 (mCall fn__law_from 2 [] (aCons (mVar 0) (aCons (mVar 9) aNil))))))
    (sSeq (sFor (iAny (mOp oIxN (mVar 4) (mVar 9))) (.nm 10) bd__law_lengths_2)
    (sIf (tVal (mOp oGt (mCB bLenN (aCons (mVar 2) aNil)) (mC (.int 1500)))) (sRet mDNewN) sNext))))
def ce__law_lengths_4 : ME := (mTup (aCons (mVar 9) (aCons (mCB bLen (aCons (mOp oIxDn (mVar 4) (mVar 9)) aNil)) aNil)))
def ce__law_lengths_6 : ME := (mTup (aCons (mVar 9) (aCons (mC (.int 0)) aNil)))
def bd__law_lengths_8 : MS := (sSeq (sDPutN (mVar 6) (mVar 11) (mOp oSub (mOp oIxN (mVar 6) (mVar 11)) (mC (.int 1))))
    (sIf (tVal (mOp (cEq false) (mOp oIxN (mVar 6) (mVar 11)) (mC (.int 0)))) (sSeq (sDPutN (mVar 8) (mVar 11) (mOp oAdd (mC (.int 1)) (mCB bMax (aCons (mComp (iAny (mOp oIxDn (mVar 4) (mVar 11))) (.nm 10) tYesE (mOp oIxN (mVar 8) (mVar 10)) [10]) aNil))))
    (sExpr (mBM isLst oAppend (mVar 7) (aCons (mVar 11) aNil)))) sNext))
def bd__law_lengths_9 : MS := (sSeq (sSet 9 (mBM isLst oPop (mVar 7) aNil))
    (sFor (iAny (mGetN (mVar 5) (mVar 9) (mLst aNil))) (.nm 11) bd__law_lengths_8))
def ms__law_lengths : MS := (sSeq (sAsg (.tp [(.nm 2), (.nm 3), (.nm 4), (.nm 5)]) (mTup (aCons (mDispN (mVar 1) (mC .non)) (aCons (mLstR (aCons (mVar 1) aNil)) (aCons mDNewN (aCons mDNewN aNil))))))
    (sSeq (sWhile (tVal (mOp (cEq true) (mVar 3) (mLst aNil))) bd__law_lengths_3)
    (sFzS 4 9 (sSeq (sSet 6 (mCB bDictPN (aCons (mComp (iKeysN (mVar 4)) (.nm 9) tYesE ce__law_lengths_4 [9]) aNil)))
    (sSeq (sSet 7 (mCompR (iKeysN (mVar 4)) (.nm 9) (tVal (mOp (cEq false) (mOp oIxN (mVar 6) (mVar 9)) (mC (.int 0)))) (mVar 9) [9]))
    (sSeq (sSet 8 (mCB bDictPN (aCons (mComp (iAny (mVar 7)) (.nm 9) tYesE ce__law_lengths_6 [9]) aNil)))
    (sSeq (sWhile (tVal (mOp (cEq true) (mVar 7) (mLst aNil))) bd__law_lengths_9)
    (sRet (mIf (tVal (mOp (cEq false) (mCB bLenN (aCons (mVar 8) aNil)) (mCB bLenN (aCons (mVar 4) aNil)))) (mVar 8) (mC .non))))))))))
def fn__law_lengths : FN := fnOf 13 ms__law_lengths
/-! ### check_table -/
def st_check_table : Stmt := top 18
def d_check_table : He.DefD := ⟨("check_table", none), "check_table", "check_table", defArgs st_check_table, defBody st_check_table, defScope st_check_table, [], []⟩
def N_check_table : List Str := ["system", "name"]
def ms_check_table : MS := (sIf (tVal (mOp (cIn true) (mVar 1) (mFld "System" "kept_tables" (mVar 0)))) sNever sNext)
def fn_check_table : FN := fnOf 2 ms_check_table
/-! ### check_cell -/
def st_check_cell : Stmt := top 19
def d_check_cell : He.DefD := ⟨("check_cell", none), "check_cell", "check_cell", defArgs st_check_cell, defBody st_check_cell, defScope st_check_cell, [], []⟩
def N_check_cell : List Str := ["system", "cell", "name", "point"]
def ms_check_cell : MS := (sSeq (sAsg (.tp [(.nm 2), (.nm 3)]) (mVar 1))
    (sSeq (sExpr (mFz 9 (mCall fn_check_table 2 [] (aCons (mVar 0) (aCons (mVar 2) aNil)))))
    (sIf (tOr (tVal (mOp (cEq true) (mCB bLen (aCons (mVar 3) aNil)) (mFld "System" "dimension_count" (mVar 0)))) (tVal (mOp oLt (mCB bMin (aCons (mVar 3) aNil)) (mC (.int 0))))) sNever sNext)))
def fn_check_cell : FN := fnOf 4 ms_check_cell
/-! ### is_below -/
def st_is_below : Stmt := top 26
def d_is_below : He.DefD := ⟨("is_below", none), "is_below", "is_below", defArgs st_is_below, defBody st_is_below, defScope st_is_below, [], []⟩
def N_is_below : List Str := ["point", "other", "one", "two"]
def ms_is_below : MS := (sRet (mCB bAll (aCons (mComp (iZipM (aCons (mVar 0) (aCons (mVar 1) aNil))) (.tp [(.nm 2), (.nm 3)]) tYesE (mOp oLe (mVar 2) (mVar 3)) [2, 3]) aNil)))
def fn_is_below : FN := fnOf 4 ms_is_below
/-! ### earlier_in -/
def st_earlier_in : Stmt := top 27
def d_earlier_in : He.DefD := ⟨("earlier_in", none), "earlier_in", "earlier_in", defArgs st_earlier_in, defBody st_earlier_in, defScope st_earlier_in, [], []⟩
def N_earlier_in : List Str := ["way", "name", "point", "number", "table", "there"]
def bd_earlier_in_1 : MS := (sIf (tAnd (tVal (mOp (cEq false) (mVar 4) (mVar 1))) (tTru (mFz 9 (mCall fn_is_below 2 [] (aCons (mVar 5) (aCons (mVar 2) aNil)))))) (sRet (mVar 3)) sNext)
def ms_earlier_in : MS := (sSeq (sFor (iEnumM (aCons (mVar 0) aNil)) (.tp [(.nm 3), (.tp [(.nm 4), (.nm 5)])]) bd_earlier_in_1)
    (sRet (mC .non)))
def fn_earlier_in : FN := fnOf 6 ms_earlier_in
/-! ### cells_from -/
def st_cells_from : Stmt := top 24
def d_cells_from : He.DefD := ⟨("cells_from", none), "cells_from", "cells_from", defArgs st_cells_from, defBody st_cells_from, defScope st_cells_from, [], []⟩
def N_cells_from : List Str := ["system", "name", "point", "found", "table", "vector", "factor", "there", "place", "step"]
def bd_cells_from_2 : MS := (sSeq (sSet 7 (mCB bTuple (aCons (mComp (iZipM (aCons (mVar 2) (aCons (mVar 5) aNil))) (.tp [(.nm 8), (.nm 9)]) tYesE (mOp oSub (mVar 8) (mVar 9)) [8, 9]) aNil)))
    (sIf (tVal (mOp oGe (mCB bMin (aCons (mVar 7) aNil)) (mC (.int 0)))) (sExpr (mBM isLst oAppend (mVar 3) (aCons (mTup (aCons (mVar 4) (aCons (mVar 7) aNil))) aNil))) sNext))
def ms_cells_from : MS := (sSeq (sSet 3 (mLstR aNil))
    (sSeq (sFor (iAny (mOp oIx (mOp oIx (mFld "System" "kept_tables" (mVar 0)) (mVar 1)) (mC (.int 1)))) (.tp [(.nm 4), (.nm 5), (.nm 6)]) bd_cells_from_2)
    (sRet (mVar 3))))
def fn_cells_from : FN := fnOf 10 ms_cells_from
/-! ### search -/
def st_search : Stmt := top 28
def d_search : He.DefD := ⟨("search", none), "search", "search", defArgs st_search, defBody st_search, defScope st_search, [], []⟩
def N_search : List Str := ["system", "cell", "known", "way", "left", "waiting", "later", "number"]
def bd_search_1 : MS := (sIf (tVal (mOp (cEq false) (mVar 5) (mLst aNil))) (sSeq (sDPutN (mVar 2) (mBM isLst oPop (mVar 3) aNil) (mC (.bl true)))
    (sSet 5 (mBM isLst oPop (mVar 4) aNil))) (sSeq (sSet 6 (mBM isLst oPop (mVar 5) aNil))
    (sSeq (sSet 7 (mIf (tVal (mOp (cInN false) (mVar 6) (mVar 2))) (mC .non) (mFz 9 (mCall fn_earlier_in 3 [] (aCons (mVar 3) (aCons (mOp oIx (mVar 6) (mC (.int 0))) (aCons (mOp oIx (mVar 6) (mC (.int 1))) aNil)))))))
    (sSeq (sIf (tVal (mOp (cIsN true) (mVar 7) (mC .non))) (sRet (mTup (aCons (mLst (aStar (mVar 3) (aCons (mVar 6) aNil))) (aCons (mVar 7) aNil)))) sNext)
    (sIf (tVal (mOp (cInN true) (mVar 6) (mVar 2))) (sSeq (sExpr (mBM isLst oAppend (mVar 3) (aCons (mVar 6) aNil)))
    (sSeq (sExpr (mBM isLst oAppend (mVar 4) (aCons (mVar 5) aNil)))
    (sSet 5 (mCall fn_cells_from 3 [] (aCons (mVar 0) (aCons (mOp oIx (mVar 6) (mC (.int 0))) (aCons (mOp oIx (mVar 6) (mC (.int 1))) aNil))))))) sNext)))))
def ms_search : MS := (sSeq (sPar 3 4 (aCons (mLstR aNil) (aCons (mLstR aNil) aNil)))
    (sSeq (sSet 5 (mLstR (aCons (mVar 1) aNil)))
    (sSeq (sWhile (tOr (tVal (mOp (cEq true) (mVar 5) (mLst aNil))) (tVal (mOp (cEq true) (mVar 3) (mLst aNil)))) bd_search_1)
    (sRet (mC .non)))))
def fn_search : FN := fnOf 8 ms_search
/-! ### ready_in -/
def st_ready_in : Stmt := top 29
def d_ready_in : He.DefD := ⟨("ready_in", none), "ready_in", "ready_in", defArgs st_ready_in, defBody st_ready_in, defScope st_ready_in, [], []⟩
def N_ready_in : List Str := ["system", "cell"]
def ms_ready_in : MS := (sRet (mOp (cIsN false) (mFz 9 (mCall fn_search 3 [] (aCons (mVar 0) (aCons (mVar 1) (aCons mDNewN aNil))))) (mC .non)))
def fn_ready_in : FN := fnOf 2 ms_ready_in
/-! ### check_ready -/
def st_check_ready : Stmt := top 31
def d_check_ready : He.DefD := ⟨("check_ready", none), "check_ready", "check_ready", defArgs st_check_ready, defBody st_check_ready, defScope st_check_ready, [], []⟩
def N_check_ready : List Str := ["system", "cell"]
def ms_check_ready : MS := (sSeq (sExpr (mFz 9 (mCall fn_check_cell 2 [] (aCons (mVar 0) (aCons (mVar 1) aNil)))))
    (sIf (tNot (tTru (mFz 9 (mCall fn_ready_in 2 [] (aCons (mVar 0) (aCons (mVar 1) aNil)))))) sNever sNext))
def fn_check_ready : FN := fnOf 2 ms_check_ready
/-! ### lengths_from -/
def st_lengths_from : Stmt := top 32
def d_lengths_from : He.DefD := ⟨("lengths_from", none), "lengths_from", "lengths_from", defArgs st_lengths_from, defBody st_lengths_from, defScope st_lengths_from, [], []⟩
def N_lengths_from : List Str := ["system", "cell", "found", "waiting", "here", "later", "open_cells", "other"]
def ce_lengths_from_2 : ME := (mOp oAdd (mOp oIxN (mVar 2) (mVar 7)) (mC (.int 1)))
def bd_lengths_from_3 : MS := (sSeq (sSet 4 (mOp oIx (mVar 3) (mUn oNeg (mC (.int 1)))))
    (sSeq (sSet 5 (mFz 9 (mCall fn_cells_from 3 [] (aCons (mVar 0) (aCons (mOp oIx (mVar 4) (mC (.int 0))) (aCons (mOp oIx (mVar 4) (mC (.int 1))) aNil))))))
    (sSeq (sSet 6 (mComp (iAny (mVar 5)) (.nm 7) (tVal (mOp (cInN true) (mVar 7) (mVar 2))) (mVar 7) [7]))
    (sIf (tVal (mOp (cEq true) (mVar 6) (mLst aNil))) (sExpr (mBM isLst oExtend (mVar 3) (aCons (mVar 6) aNil))) (sSeq (sExpr (mBM isLst oPop (mVar 3) aNil))
    (sDPutN (mVar 2) (mVar 4) (mCB bMax (aCons (mOp oAdd (mComp (iAny (mVar 5)) (.nm 7) tYesE ce_lengths_from_2 [7]) (mLst (aCons (mC (.int 0)) aNil))) aNil))))))))
def ms_lengths_from : MS := (sSeq (sAsg (.tp [(.nm 2), (.nm 3)]) (mTup (aCons mDNewN (aCons (mLstR (aCons (mVar 1) aNil)) aNil))))
    (sSeq (sWhile (tVal (mOp (cEq true) (mVar 3) (mLst aNil))) bd_lengths_from_3)
    (sRet (mVar 2))))
def fn_lengths_from : FN := fnOf 8 ms_lengths_from
/-! ### needed -/
def st_needed : Stmt := top 33
def d_needed : He.DefD := ⟨("needed", none), "needed", "needed", defArgs st_needed, defBody st_needed, defScope st_needed, [], []⟩
def N_needed : List Str := ["system", "cell", "lengths"]
def ms_needed : MS := (sSeq (sExpr (mFz 9 (mCall fn_check_ready 2 [] (aCons (mVar 0) (aCons (mVar 1) aNil)))))
    (sSeq (sSet 2 (mCall fn_lengths_from 2 [] (aCons (mVar 0) (aCons (mVar 1) aNil))))
    (sRet (mSortLR 2 (mVar 2)))))
def fn_needed : FN := fnOf 3 ms_needed
/-! ### _law_ring -/
def st__law_ring : Stmt := top 45
def d__law_ring : He.DefD := ⟨("_law_ring", none), "_law_ring", "_law_ring", defArgs st__law_ring, defBody st__law_ring, defScope st__law_ring, [], []⟩
def N__law_ring : List Str := ["_law_rng_here", "_law_words", "_law_step", "_law_rows", "_law_spot", "_law_word", "_law_turn", "_law_vector_here", "_law_number", "_law_some"]
def bd__law_ring_1 : MS := (sSeq (sSet 7 (mTup (aCons (mOp oMul (mVar 2) (mCB bInt (aCons (mOp (cEq false) (mVar 4) (mC (.int 0))) aNil))) aNil)))
    (sExpr (mBM isLst oAppend (mVar 3) (aCons (mTup (aCons (mVar 5) (aCons (mFz 9 (mCall fn__law_draw 2 [] (aCons (mVar 0) (aCons (mC (.int 9)) aNil)))) (aCons (mLstR (aCons (mTup (aCons (mOp oIx (mVar 1) (mOp oSub (mVar 4) (mC (.int 1)))) (aCons (mVar 7) (aCons (mOp oAdd (mC (.int 1)) (mFz 9 (mCall fn__law_draw 2 [] (aCons (mVar 0) (aCons (mC (.int 9)) aNil))))) aNil)))) aNil)) aNil)))) aNil))))
def bd__law_ring_2 : MS := (sSeq (sAsg (.tp [(.nm 5), (.nm 8), (.nm 9)]) (mOp oIx (mVar 3) (mFz 9 (mCall fn__law_draw 2 [] (aCons (mVar 0) (aCons (mCB bLen (aCons (mVar 3) aNil)) aNil))))))
    (sExpr (mBM isLst oAppend (mVar 9) (aCons (mTup (aCons (mOp oIx (mVar 1) (mFz 9 (mCall fn__law_draw 2 [] (aCons (mVar 0) (aCons (mCB bLen (aCons (mVar 1) aNil)) aNil))))) (aCons (mTup (aCons (mOp oAdd (mC (.int 1)) (mFz 9 (mCall fn__law_draw 2 [] (aCons (mVar 0) (aCons (mC (.int 5)) aNil))))) aNil)) (aCons (mC (.int 1)) aNil)))) aNil))))
def ms__law_ring : MS := (sSeq (sSet 1 (mSl oSlice (mFz 9 (mCall fn__law_mixed 2 [] (aCons (mVar 0) (aCons (mLst (aCons (mC (.str "a")) (aCons (mC (.str "b")) (aCons (mC (.str "c")) (aCons (mC (.str "ab")) (aCons (mC (.str "zz")) (aCons (mC (.str "readhere")) aNil))))))) aNil)))) mNo (mPt (mOp oAdd (mC (.int 4)) (mFz 9 (mCall fn__law_draw 2 [] (aCons (mVar 0) (aCons (mC (.int 3)) aNil))))))))
    (sSeq (sPar 2 3 (aCons (mOp oAdd (mC (.int 1)) (mFz 9 (mCall fn__law_draw 2 [] (aCons (mVar 0) (aCons (mC (.int 3)) aNil))))) (aCons (mLstR aNil) aNil)))
    (sSeq (sFor (iEnumM (aCons (mVar 1) aNil)) (.tp [(.nm 4), (.nm 5)]) bd__law_ring_1)
    (sSeq (sFor (iRange1 (aCons (mFz 9 (mCall fn__law_draw 2 [] (aCons (mVar 0) (aCons (mC (.int 4)) aNil)))) aNil)) (.nm 6) bd__law_ring_2)
    (sFzI 3 9 (sFzV 3 (sRet (mFz 9 (mCall fn__law_mixed 2 [] (aCons (mVar 0) (aCons (mVar 3) aNil)))))))))))
def fn__law_ring : FN := fnOf 10 ms__law_ring
/-! ### law -/
def st_law : Stmt := top 46
def d_law : He.DefD := ⟨("law", none), "law", "law", defArgs st_law, defBody st_law, defScope st_law, [], []⟩
def N_law : List Str := ["_law_script", "_law_rng_here", "_law_lap", "_law_rows", "_law_here", "_law_lengths_here", "_law_due", "_law_pair", "_law_dims", "_law_made", "_law_turn", "_law_row", "_law_told", "_law_one"]
def ce_law_1 : ME := (mTup (aCons (mOp oIxDn (mVar 5) (mVar 13)) (aCons (mOp oIx (mVar 13) (mC (.int 0))) (aCons (mOp oIx (mVar 13) (mC (.int 1))) aNil))))
def ce_law_2 : ME := (mSl oSlice (mVar 11) (mPt (mC (.int 1))) mNo)
def bd_law_3 : MS := (sSeq (sIf (tVal (mOp (cEq true) (mVar 12) (mVar 6))) (sRet (mC (.bl false))) sNext)
    (sExpr (mBM isLst oAppend (mVar 12) (aCons (mC .non) aNil))))
def bd_law_4 : MS := (sSeq (sSet 4 (mTup (aCons (mOp oIx (mFz 9 (mProp "System" fn_System_names 1 [] (mVar 9))) (mFz 9 (mCall fn__law_draw 2 [] (aCons (mVar 1) (aCons (mCB bLen (aCons (mVar 3) aNil)) aNil))))) (aCons (mFz 9 (mCall fn__law_point 2 [] (aCons (mVar 1) (aCons (mVar 8) aNil)))) aNil))))
    (sSeq (sSet 5 (mFz 9 (mCall fn__law_lengths 2 [] (aCons (mVar 3) (aCons (mVar 4) aNil)))))
    (sIf (tAnd (tVal (mOp (cIsN true) (mVar 5) (mC .non))) (tVal (mOp (cEqE0 true) (mVar 5) mDNew))) (sSeq (sSet 6 (mComp (iAny (mCB bSortT (aCons (mComp (iKeysN (mVar 5)) (.nm 13) tYesE ce_law_1 [13]) aNil))) (.nm 11) tYesE ce_law_2 [11]))
    (sSeq (sFor (iAny (mTup (aCons (mCall fn_needed 2 [] (aCons (mVar 9) (aCons (mVar 4) aNil))) (aCons (mCallN fn_needed 2 0 2 (prm .non [.inr 1, .inr 0]) aNil (aCons (mVar 4) (aCons (mVar 9) aNil))) aNil)))) (.nm 12) bd_law_3)
    (sIf (tVal (mOp (cEq true) (mFz 9 (mCall fn_needed 2 [] (aCons (mVar 9) (aCons (mVar 4) aNil)))) (mVar 6))) (sRet (mC (.bl false))) sNext))) sNext)))
def bd_law_5 : MS := (sSeq (sAsg (.tp [(.nm 8), (.nm 3)]) (mFz 9 (mCall fn__law_small 1 [] (aCons (mVar 1) aNil))))
    (sSeq (sSet 9 (mFz 9 (mMake "System" fn_System_init 4 [(.int 1000003)] (aCons (mVar 8) (aCons (mVar 3) aNil)))))
    (sFor (iRange1 (aCons (mC (.int 5)) aNil)) (.nm 10) bd_law_4)))
def ce_law_6 : ME := (mTup (aCons (mOp oIxDn (mVar 5) (mVar 13)) (aCons (mOp oIx (mVar 13) (mC (.int 0))) (aCons (mOp oIx (mVar 13) (mC (.int 1))) aNil))))
def ce_law_7 : ME := (mSl oSlice (mVar 11) (mPt (mC (.int 1))) mNo)
def ms_law : MS := (sSeq (sSet 1 (mCall fn__law_rng 1 [] (aCons (mVar 0) aNil)))
    (sSeq (sFor (iRange1 (aCons (mOp oAdd (mC (.int 8)) (mCB bMin (aCons (mC (.int 10)) (aCons (mCB bLen (aCons (mVar 0) aNil)) aNil)))) aNil)) (.nm 2) bd_law_5)
    (sSeq (sSet 3 (mFz 9 (mCall fn__law_ring 1 [] (aCons (mVar 1) aNil))))
    (sSeq (sSet 4 (mTup (aCons (mOp oIx (mOp oIx (mVar 3) (mC (.int 0))) (mC (.int 0))) (aCons (mTup (aCons (mOp oSub (mC (.int 100)) (mFz 9 (mCall fn__law_draw 2 [] (aCons (mVar 1) (aCons (mC (.int 41)) aNil))))) aNil)) aNil))))
    (sSeq (sSet 5 (mFz 9 (mCall fn__law_lengths 2 [] (aCons (mVar 3) (aCons (mVar 4) aNil)))))
    (sSeq (sSet 6 (mComp (iAny (mCB bSortT (aCons (mComp (iKeysN (mVar 5)) (.nm 13) tYesE ce_law_6 [13]) aNil))) (.nm 11) tYesE ce_law_7 [11]))
    (sSeq (sIf (tVal (mOp (cEq true) (mFz 9 (mCall fn_needed 2 [] (aCons (mFz 9 (mMake "System" fn_System_init 4 [(.int 1000003)] (aCons (mC (.int 1)) (aCons (mVar 3) aNil)))) (aCons (mVar 4) aNil)))) (mVar 6))) (sRet (mC (.bl false))) sNext)
    (sSeq (sSet 7 (mFz 9 (mMake "System" fn_System_init 4 [(.int 1000003)] (aCons (mC (.int 2)) (aCons (mLst (aCons (mTup (aCons (mC (.str "a")) (aCons (mC (.int 0)) (aCons (mLst (aCons (mTup (aCons (mC (.str "a")) (aCons (mTup (aCons (mC (.int 1)) (aCons (mUn oNeg (mC (.int 1))) aNil))) (aCons (mC (.int 1)) aNil)))) (aCons (mTup (aCons (mC (.str "b")) (aCons (mTup (aCons (mC (.int 0)) (aCons (mC (.int 0)) aNil))) (aCons (mC (.int 1)) aNil)))) aNil))) aNil)))) (aCons (mTup (aCons (mC (.str "b")) (aCons (mC (.int 1)) (aCons (mLst (aCons (mTup (aCons (mC (.str "b")) (aCons (mTup (aCons (mUn oNeg (mC (.int 1))) (aCons (mC (.int 1)) aNil))) (aCons (mC (.int 1)) aNil)))) (aCons (mTup (aCons (mC (.str "a")) (aCons (mTup (aCons (mC (.int 0)) (aCons (mC (.int 1)) aNil))) (aCons (mC (.int 1)) aNil)))) aNil))) aNil)))) aNil))) aNil)))))
    (sRet (mOp (cEq false) (mFz 9 (mCall fn_needed 2 [] (aCons (mVar 7) (aCons (mTup (aCons (mC (.str "b")) (aCons (mTup (aCons (mC (.int 0)) (aCons (mC (.int 1)) aNil))) aNil))) aNil)))) (mLst (aCons (mTup (aCons (mC (.str "b")) (aCons (mTup (aCons (mC (.int 0)) (aCons (mC (.int 0)) aNil))) aNil))) (aCons (mTup (aCons (mC (.str "b")) (aCons (mTup (aCons (mC (.int 1)) (aCons (mC (.int 0)) aNil))) aNil))) (aCons (mTup (aCons (mC (.str "a")) (aCons (mTup (aCons (mC (.int 0)) (aCons (mC (.int 0)) aNil))) aNil))) (aCons (mTup (aCons (mC (.str "b")) (aCons (mTup (aCons (mC (.int 0)) (aCons (mC (.int 1)) aNil))) aNil))) aNil)))))))))))))))
def fn_law : FN := fnOf 14 ms_law
def facts : List He.Fa := [.free "abs", .free "int", .glo "_law_rng", .free "range", .free "len", .free "min", .glo "_law_draw", .free "list", .glo "_law_mixed", .free "tuple", .glo "_law_vector", .glo "_law_made_rows", .glo "_law_small", .int "MOST_DIMENSIONS" 3, .int "MOST_TABLES" 6, .free "enumerate", .int "MOST_LETTERS" 8, .str "LETTERS" "abcdefghijklmnopqrstuvwxyz", .free "all", .glo "is_name", .int "MOST_READS" 12, .glo "is_read", .glo "check_system", .glo "System", .cls "System", .noat "System" "dimension_count", .noat "System" "kept_modulus", .noat "System" "kept_tables", .free "sorted", .noat "System" "named_reads", .mkr "System", .glo "_law_point", .free "set", .free "zip", .glo "_law_from", .glo "_law_is_below", .free "dict", .free "max", .glo "_law_lengths", .glo "check_table", .glo "check_cell", .glo "is_below", .glo "earlier_in", .glo "cells_from", .glo "search", .glo "ready_in", .glo "check_ready", .glo "lengths_from", .glo "needed", .glo "_law_ring", .glo "law"]
def defs : List He.DefD := [d_law, d__law_rng, d__law_small, d__law_draw, d__law_made_rows, d__law_mixed, d__law_vector, d_System_init, d_check_system, d_is_name, d_is_read, d__law_point, d__law_lengths, d__law_from, d__law_is_below, d_needed, d_check_ready, d_check_cell, d_check_table, d_ready_in, d_search, d_earlier_in, d_is_below, d_cells_from, d_lengths_from, d__law_ring]
def gets : List GetD := [p_System_names]
end LW
set_option maxHeartbeats 0
namespace LW
open PySem PySem.Spec PyProof.Rows L2 VM
abbrev R : PySem.W.OpenRow := PySem.W.OpenLaw.row PySem.Challenge.rw_farreads_k12_needed_cells
abbrev hk : PySem.W.Hook := hookP 6 facts defs gets errs (tfs.map (·.1))
def ob (s : PySem.W.SharedT) : AlP := obsP 6 facts defs gets errs (tfs.map (·.1)) (HandSHeadRun.getT s)
theorem ob_eq (s : PySem.W.SharedT) : ob s = hk.obs s.abs := obsP_eq (HandSHeadRun.getT_eq s)
def loose : List PySem.Str := (["_wall", "ReadError", "InvalidSystem", "UnknownTable", "InvalidCell", "InvalidRead", "InvalidNumber", "NotReady", "is_name", "is_read", "check_system", "check_table", "check_cell", "check_read", "table_list", "System", "cells_from", "is_below", "earlier_in", "search", "ready_in", "check_ready", "lengths_from", "needed", "_law_rng", "_law_draw", "_law_mixed", "_law_vector", "_law_made_rows", "_law_small"] : List PySem.Str) ++ (["_law_point", "_law_from", "_law_is_below", "_law_lengths", "_law_ring", "MOST_DIMENSIONS", "MOST_TABLES", "MOST_READS", "MOST_LETTERS", "LETTERS"] : List PySem.Str)
theorem run (w : World) : HandSHeadRun.RunEq R (PySem.W.view R.prog [46]) hk ob 6000 loose w := by
  intro os
  kernel_rfl
end LW
set_option maxHeartbeats 4000000
namespace LW
open PySem PySem.Spec PyProof.Rows L2 VM
theorem sc__law_rng : FnScope N__law_rng (N__law_rng.take 1) (defScope st__law_rng) := ⟨rfl, rfl, rfl, by decide +kernel, rfl, by decide +kernel, by decide +kernel⟩
theorem ok__law_rng {w : World} {K : PySem.W.Frag} {mg : Str → Option Value} {base : Heap} (W : Wd facts defs gets errs K mg base) {fd : FuncData} (F : FunD K "_law_rng" "_law_rng" (defArgs st__law_rng) (defBody st__law_rng) (defScope st__law_rng) [] [] (He.fAd K d__law_rng.at_) fd) :
    FnG prg w K mg base CX0 1 (He.fAd K d__law_rng.at_) fd (N__law_rng.take 1) (spOf K ⟨mg, w⟩ 1 fn__law_rng) := by
  have b_abs := W.free 0 (x := "abs") rfl
  have b_int := W.free 1 (x := "int") rfl
  refine fn_ok0 (ms := ms__law_rng) F sc__law_rng fun cdv A outer s H E hr => ?_
  unfold ms__law_rng
  exact (rs_cons (rs_asg (re_tup (ra_cons re_int (ra_cons re_int ra_nil))) (rg_tp rfl (rgs_cons (rg_nm sc__law_rng.nd) (rgs_cons (rg_nm sc__law_rng.nd) rgs_nil))))
    (rs_cons (rs_for PassesOwn.never rfl (ri_any (re_slice sl_any (re_var 0) ro_no (ro_some re_int))) (rg_nm sc__law_rng.nd) (rs_cons (rs_set (i := 4) sc__law_rng.nd (re_cb cb_abs rfl b_abs (by rfl) (ra_cons (re_var 3) ra_nil)))
    (rs_cons (rs_if (rt_cmp op_ge_int (re_var 4) (re_op op_pow_int re_int re_int) (by rfl)) (rs_one (rs_set (i := 1) sc__law_rng.nd (re_op op_add_any (re_op op_mul_any (re_var 1) (re_op op_pow_int re_int re_int)) (re_op op_mod_int (re_cty cb_int rfl b_int (by rfl) (ra_cons (re_var 4) ra_nil)) (re_op op_pow_int re_int re_int))))) rs_nil)
    (rs_one (rs_set (i := 2) sc__law_rng.nd (re_op op_mod_int (re_cty cb_int rfl b_int (by rfl) (ra_cons (re_op op_add_any (re_op op_add_any (re_op op_mul_any (re_var 2) re_int) (re_op op_mod_int (re_cty cb_int rfl b_int (by rfl) (ra_cons (re_var 3) ra_nil)) re_int)) re_int) ra_nil)) re_int))))))
    (rs_one (rs_ret (re_lstR (ra_cons (re_var 1) (ra_cons (re_var 2) (ra_cons re_int ra_nil))))))))
theorem sc__law_draw : FnScope N__law_draw (N__law_draw.take 2) (defScope st__law_draw) := ⟨rfl, rfl, rfl, by decide +kernel, rfl, by decide +kernel, by decide +kernel⟩
theorem ok__law_draw {w : World} {K : PySem.W.Frag} {mg : Str → Option Value} {base : Heap} (W : Wd facts defs gets errs K mg base) {fd : FuncData} (F : FunD K "_law_draw" "_law_draw" (defArgs st__law_draw) (defBody st__law_draw) (defScope st__law_draw) [] [] (He.fAd K d__law_draw.at_) fd) :
    FnG prg w K mg base CX0 1 (He.fAd K d__law_draw.at_) fd (N__law_draw.take 2) (spOf K ⟨mg, w⟩ 2 fn__law_draw) := by
  have b_int := W.free 1 (x := "int") rfl
  refine fn_ok0 (ms := ms__law_draw) F sc__law_draw fun cdv A outer s H E hr => ?_
  unfold ms__law_draw
  exact (rs_cons (rs_if (rt_cmp op_gt_int (re_sub (ix_any hr) (re_var 0) re_int (fun _ _ => rfl)) re_int (by rfl)) (rs_cons (rs_set (i := 3) sc__law_draw.nd (re_op op_mod_int (re_cty cb_int rfl b_int (by rfl) (ra_cons (re_sub (ix_any hr) (re_var 0) re_int (fun _ _ => rfl)) ra_nil)) (re_var 1)))
    (rs_cons (rs_lput (re_var 0) re_int (re_op op_div_int (re_sub (ix_any hr) (re_var 0) re_int (fun _ _ => rfl)) (re_var 1)))
    (rs_one (rs_ret (re_var 3))))) rs_nil)
    (rs_cons (rs_lput (re_var 0) re_int (re_op op_add_any (re_sub (ix_any hr) (re_var 0) re_int (fun _ _ => rfl)) re_int))
    (rs_cons (rs_set (i := 2) sc__law_draw.nd (re_op op_mod_int (re_cty cb_int rfl b_int (by rfl) (ra_cons (re_op op_pow_int (re_op op_add_any (re_sub (ix_any hr) (re_var 0) re_int (fun _ _ => rfl)) (re_op op_mul_any re_int (re_sub (ix_any hr) (re_var 0) re_int (fun _ _ => rfl)))) re_int) ra_nil)) re_int))
    (rs_cons (rs_set (i := 2) sc__law_draw.nd (re_op op_mod_int (re_cty cb_int rfl b_int (by rfl) (ra_cons (re_op op_pow_int (re_op op_add_any (re_var 2) (re_op op_mul_any re_int (re_sub (ix_any hr) (re_var 0) re_int (fun _ _ => rfl)))) re_int) ra_nil)) re_int))
    (rs_one (rs_ret (re_op op_mod_int (re_cty cb_int rfl b_int (by rfl) (ra_cons (re_op op_div_int (re_var 2) re_int) ra_nil)) (re_var 1))))))))
theorem sc__law_mixed : FnScope N__law_mixed (N__law_mixed.take 2) (defScope st__law_mixed) := ⟨rfl, rfl, rfl, by decide +kernel, rfl, by decide +kernel, by decide +kernel⟩
theorem ok__law_mixed {w : World} {K : PySem.W.Frag} {mg : Str → Option Value} {base : Heap} (W : Wd facts defs gets errs K mg base) {fd : FuncData} (F : FunD K "_law_mixed" "_law_mixed" (defArgs st__law_mixed) (defBody st__law_mixed) (defScope st__law_mixed) [] [] (He.fAd K d__law_mixed.at_) fd) :
    FnG prg w K mg base CX0 2 (He.fAd K d__law_mixed.at_) fd (N__law_mixed.take 2) (spOf K ⟨mg, w⟩ 2 fn__law_mixed) := by
  have b_list := W.free 7 (x := "list") rfl
  obtain ⟨fd__law_draw, F__law_draw⟩ := W.c.def_ 3 (d := d__law_draw) rfl
  have G__law_draw := ok__law_draw (w := w) W F__law_draw
  have g__law_draw := W.glo 6 (x := "_law_draw") rfl
  have b_len := W.free 4 (x := "len") rfl
  have B__law_draw := FunD.bindsN (ps := N__law_draw.take 2) F__law_draw (fun _ _ _ _ _ _ us hl => match us, hl with | [_, _], _ => rfl)
  refine fn_ok0 (ms := ms__law_mixed) F sc__law_mixed fun cdv A outer s H E hr => ?_
  unfold ms__law_mixed
  exact (rs_cons (rs_par (i := 2) (j := 3) rfl sc__law_mixed.nd (ra_cons (re_cty cb_listR rfl b_list (by rfl) (ra_cons (re_var 1) ra_nil)) (ra_cons (re_lstR ra_nil) ra_nil)))
    (rs_cons (rs_while PassesOwn.never (rt_cmp (op_ne_any hr) (re_var 2) (re_lst ra_nil) (by rfl)) (rs_one (rs_expr (re_bm PySem.F.plainAttrs_list PySem.F.slot_list_append PySem.F.type_list_append mt_append_e isLst_ty (re_var 3) (ra_cons (re_bm PySem.F.plainAttrs_list PySem.F.slot_list_pop PySem.F.type_list_pop mt_pop_e isLst_ty (re_var 2) (ra_cons (re_fz 9 (re_call G__law_draw (hr.mono (by decide)) rfl g__law_draw F__law_draw.kp B__law_draw .nil (fun _ _ _ => rfl) pass_any (ra_cons (re_var 0) (ra_cons (re_cb cb_len rfl b_len (by rfl) (ra_cons (re_var 2) ra_nil)) ra_nil)))) ra_nil)) ra_nil)))))
    (rs_one (rs_ret (re_var 3)))))
theorem sc__law_vector : FnScope N__law_vector (N__law_vector.take 3) (defScope st__law_vector) := ⟨rfl, rfl, rfl, by decide +kernel, rfl, by decide +kernel, by decide +kernel⟩
theorem ok__law_vector {w : World} {K : PySem.W.Frag} {mg : Str → Option Value} {base : Heap} (W : Wd facts defs gets errs K mg base) {fd : FuncData} (F : FunD K "_law_vector" "_law_vector" (defArgs st__law_vector) (defBody st__law_vector) (defScope st__law_vector) [] [] (He.fAd K d__law_vector.at_) fd) :
    FnG prg w K mg base CX0 2 (He.fAd K d__law_vector.at_) fd (N__law_vector.take 3) (spOf K ⟨mg, w⟩ 3 fn__law_vector) := by
  have b_range := W.free 3 (x := "range") rfl
  obtain ⟨fd__law_draw, F__law_draw⟩ := W.c.def_ 3 (d := d__law_draw) rfl
  have G__law_draw := ok__law_draw (w := w) W F__law_draw
  have g__law_draw := W.glo 6 (x := "_law_draw") rfl
  have B__law_draw := FunD.bindsN (ps := N__law_draw.take 2) F__law_draw (fun _ _ _ _ _ _ us hl => match us, hl with | [_, _], _ => rfl)
  have b_tuple := W.free 9 (x := "tuple") rfl
  refine fn_ok0 (ms := ms__law_vector) F sc__law_vector fun cdv A outer s H E hr => ?_
  unfold ms__law_vector
  exact (rs_cons (rs_set (i := 3) sc__law_vector.nd (re_lstR ra_nil))
    (rs_cons (rs_for PassesOwn.never rfl (ri_range1 rfl b_range (ra_cons (re_var 1) ra_nil)) (rg_nm sc__law_vector.nd) (rs_one (rs_expr (re_bm PySem.F.plainAttrs_list PySem.F.slot_list_append PySem.F.type_list_append mt_append_e isLst_ty (re_var 3) (ra_cons (re_sub (ix_any hr) (re_lst (ra_cons re_int (ra_cons re_int (ra_cons (re_fz 9 (re_call G__law_draw (hr.mono (by decide)) rfl g__law_draw F__law_draw.kp B__law_draw .nil (fun _ _ _ => rfl) pass_any (ra_cons (re_var 0) (ra_cons (re_op op_add_any (re_var 2) re_int) ra_nil)))) (ra_cons (re_op op_sub_int re_int (re_fz 9 (re_call G__law_draw (hr.mono (by decide)) rfl g__law_draw F__law_draw.kp B__law_draw .nil (fun _ _ _ => rfl) pass_any (ra_cons (re_var 0) (ra_cons (re_op op_add_any (re_var 2) re_int) ra_nil))))) ra_nil))))) (re_fz 9 (re_call G__law_draw (hr.mono (by decide)) rfl g__law_draw F__law_draw.kp B__law_draw .nil (fun _ _ _ => rfl) pass_any (ra_cons (re_var 0) (ra_cons re_int ra_nil)))) (fun _ _ => rfl)) ra_nil)))))
    (rs_one (rs_ret (re_cty cb_tuple rfl b_tuple (by rfl) (ra_cons (re_var 3) ra_nil))))))
theorem sc__law_made_rows : FnScope N__law_made_rows (N__law_made_rows.take 5) (defScope st__law_made_rows) := ⟨rfl, rfl, rfl, by decide +kernel, rfl, by decide +kernel, by decide +kernel⟩
theorem ok__law_made_rows {w : World} {K : PySem.W.Frag} {mg : Str → Option Value} {base : Heap} (W : Wd facts defs gets errs K mg base) {fd : FuncData} (F : FunD K "_law_made_rows" "_law_made_rows" (defArgs st__law_made_rows) (defBody st__law_made_rows) (defScope st__law_made_rows) [] [] (He.fAd K d__law_made_rows.at_) fd) :
    FnG prg w K mg base CX0 3 (He.fAd K d__law_made_rows.at_) fd (N__law_made_rows.take 5) (spOf K ⟨mg, w⟩ 5 fn__law_made_rows) := by
  obtain ⟨fd__law_mixed, F__law_mixed⟩ := W.c.def_ 5 (d := d__law_mixed) rfl
  have G__law_mixed := ok__law_mixed (w := w) W F__law_mixed
  have g__law_mixed := W.glo 8 (x := "_law_mixed") rfl
  have B__law_mixed := FunD.bindsN (ps := N__law_mixed.take 2) F__law_mixed (fun _ _ _ _ _ _ us hl => match us, hl with | [_, _], _ => rfl)
  obtain ⟨fd__law_draw, F__law_draw⟩ := W.c.def_ 3 (d := d__law_draw) rfl
  have G__law_draw := ok__law_draw (w := w) W F__law_draw
  have g__law_draw := W.glo 6 (x := "_law_draw") rfl
  have B__law_draw := FunD.bindsN (ps := N__law_draw.take 2) F__law_draw (fun _ _ _ _ _ _ us hl => match us, hl with | [_, _], _ => rfl)
  have b_range := W.free 3 (x := "range") rfl
  obtain ⟨fd__law_vector, F__law_vector⟩ := W.c.def_ 6 (d := d__law_vector) rfl
  have G__law_vector := ok__law_vector (w := w) W F__law_vector
  have g__law_vector := W.glo 10 (x := "_law_vector") rfl
  have B__law_vector := FunD.bindsN (ps := N__law_vector.take 3) F__law_vector (fun _ _ _ _ _ _ us hl => match us, hl with | [_, _, _], _ => rfl)
  refine fn_ok0 (ms := ms__law_made_rows) F sc__law_made_rows fun cdv A outer s H E hr => ?_
  unfold ms__law_made_rows
  exact (rs_cons (rs_set (i := 5) sc__law_made_rows.nd (re_slice sl_any (re_fz 9 (re_call G__law_mixed (hr.mono (by decide)) rfl g__law_mixed F__law_mixed.kp B__law_mixed .nil (fun _ _ _ => rfl) pass_any (ra_cons (re_var 0) (ra_cons (re_lst (ra_cons re_str (ra_cons re_str (ra_cons re_str (ra_cons re_str (ra_cons re_str (ra_cons re_str ra_nil))))))) ra_nil)))) ro_no (ro_some (re_var 2))))
    (rs_cons (rs_if (rt_cmp (op_eq_any hr) (re_fz 9 (re_call G__law_draw (hr.mono (by decide)) rfl g__law_draw F__law_draw.kp B__law_draw .nil (fun _ _ _ => rfl) pass_any (ra_cons (re_var 0) (ra_cons re_int ra_nil)))) re_int (by rfl)) (rs_one (rs_setComp (own := [("_law_word", 8)]) rfl sc__law_made_rows.nd (sw_true rfl rfl rfl rfl) (ri_any (re_var 5)) (blkOk_by (own := [("_law_word", 8)]) (by kernel_rfl)) (fun _ _ _ _ _ => (rg_nm sc__law_made_rows.nd)) (fun _ _ _ _ _ => rts_nil) (fun _ _ _ _ _ => (re_op op_add_any re_str (re_slice sl_any (re_var 8) ro_no (ro_some re_int)))))) rs_nil)
    (rs_cons (rs_setComp (own := [("_law_word", 8)]) rfl sc__law_made_rows.nd (sw_true rfl rfl rfl rfl) (ri_any (re_var 5)) (blkOk_by (own := [("_law_word", 8)]) (by kernel_rfl)) (fun _ _ _ _ _ => (rg_nm sc__law_made_rows.nd)) (fun _ _ _ _ _ => rts_nil) (fun _ _ _ _ _ => (re_tup (ra_cons (re_var 8) (ra_cons (re_op op_sub_int (re_fz 9 (re_call G__law_draw (hr.mono (by decide)) rfl g__law_draw F__law_draw.kp B__law_draw .nil (fun _ _ _ => rfl) pass_any (ra_cons (re_var 0) (ra_cons re_int ra_nil)))) re_int) (ra_cons (re_lstR ra_nil) ra_nil))))))
    (rs_cons (rs_for PassesOwn.never rfl (ri_range1 rfl b_range (ra_cons (re_fz 9 (re_call G__law_draw (hr.mono (by decide)) rfl g__law_draw F__law_draw.kp B__law_draw .nil (fun _ _ _ => rfl) pass_any (ra_cons (re_var 0) (ra_cons (re_op op_add_any (re_var 3) re_int) ra_nil)))) ra_nil)) (rg_nm sc__law_made_rows.nd) (rs_cons (rs_asg (re_sub (ix_any hr) (re_var 6) (re_fz 9 (re_call G__law_draw (hr.mono (by decide)) rfl g__law_draw F__law_draw.kp B__law_draw .nil (fun _ _ _ => rfl) pass_any (ra_cons (re_var 0) (ra_cons (re_var 2) ra_nil)))) (fun _ _ => rfl)) (rg_tp rfl (rgs_cons (rg_nm sc__law_made_rows.nd) (rgs_cons (rg_nm sc__law_made_rows.nd) (rgs_cons (rg_nm sc__law_made_rows.nd) rgs_nil)))))
    (rs_cons (rs_set (i := 11) sc__law_made_rows.nd (re_sub (ix_any hr) (re_lst (ra_cons re_int (ra_cons (re_un un_neg_int re_int) (ra_cons (re_op op_add_any re_int (re_fz 9 (re_call G__law_draw (hr.mono (by decide)) rfl g__law_draw F__law_draw.kp B__law_draw .nil (fun _ _ _ => rfl) pass_any (ra_cons (re_var 0) (ra_cons re_int ra_nil))))) (ra_cons (re_op op_sub_int (re_op op_sub_int re_int re_int) (re_fz 9 (re_call G__law_draw (hr.mono (by decide)) rfl g__law_draw F__law_draw.kp B__law_draw .nil (fun _ _ _ => rfl) pass_any (ra_cons (re_var 0) (ra_cons re_int ra_nil))))) ra_nil))))) (re_fz 9 (re_call G__law_draw (hr.mono (by decide)) rfl g__law_draw F__law_draw.kp B__law_draw .nil (fun _ _ _ => rfl) pass_any (ra_cons (re_var 0) (ra_cons re_int ra_nil)))) (fun _ _ => rfl)))
    (rs_one (rs_expr (re_bm PySem.F.plainAttrs_list PySem.F.slot_list_append PySem.F.type_list_append mt_append_e isLst_ty (re_var 10) (ra_cons (re_tup (ra_cons (re_sub (ix_any hr) (re_var 5) (re_fz 9 (re_call G__law_draw (hr.mono (by decide)) rfl g__law_draw F__law_draw.kp B__law_draw .nil (fun _ _ _ => rfl) pass_any (ra_cons (re_var 0) (ra_cons (re_var 2) ra_nil)))) (fun _ _ => rfl)) (ra_cons (re_fz 9 (re_call G__law_vector (hr.mono (by decide)) rfl g__law_vector F__law_vector.kp B__law_vector .nil (fun _ _ _ => rfl) pass_any (ra_cons (re_var 0) (ra_cons (re_var 1) (ra_cons (re_var 4) ra_nil))))) (ra_cons (re_var 11) ra_nil)))) ra_nil)))))))
    (rs_one (rs_ret (re_var 6)))))))
theorem sc__law_small : FnScope N__law_small (N__law_small.take 1) (defScope st__law_small) := ⟨rfl, rfl, rfl, by decide +kernel, rfl, by decide +kernel, by decide +kernel⟩
theorem ok__law_small {w : World} {K : PySem.W.Frag} {mg : Str → Option Value} {base : Heap} (W : Wd facts defs gets errs K mg base) {fd : FuncData} (F : FunD K "_law_small" "_law_small" (defArgs st__law_small) (defBody st__law_small) (defScope st__law_small) [] [] (He.fAd K d__law_small.at_) fd) :
    FnG prg w K mg base CX0 4 (He.fAd K d__law_small.at_) fd (N__law_small.take 1) (spOf K ⟨mg, w⟩ 1 fn__law_small) := by
  obtain ⟨fd__law_draw, F__law_draw⟩ := W.c.def_ 3 (d := d__law_draw) rfl
  have G__law_draw := ok__law_draw (w := w) W F__law_draw
  have g__law_draw := W.glo 6 (x := "_law_draw") rfl
  have B__law_draw := FunD.bindsN (ps := N__law_draw.take 2) F__law_draw (fun _ _ _ _ _ _ us hl => match us, hl with | [_, _], _ => rfl)
  obtain ⟨fd__law_made_rows, F__law_made_rows⟩ := W.c.def_ 4 (d := d__law_made_rows) rfl
  have G__law_made_rows := ok__law_made_rows (w := w) W F__law_made_rows
  have g__law_made_rows := W.glo 11 (x := "_law_made_rows") rfl
  have B__law_made_rows := FunD.bindsN (ps := N__law_made_rows.take 5) F__law_made_rows (fun _ _ _ _ _ _ us hl => match us, hl with | [_, _, _, _, _], _ => rfl)
  refine fn_ok0 (ms := ms__law_small) F sc__law_small fun cdv A outer s H E hr => ?_
  unfold ms__law_small
  exact (rs_cons (rs_set (i := 1) sc__law_small.nd (re_op op_add_any re_int (re_fz 9 (re_call G__law_draw (hr.mono (by decide)) rfl g__law_draw F__law_draw.kp B__law_draw .nil (fun _ _ _ => rfl) pass_any (ra_cons (re_var 0) (ra_cons re_int ra_nil))))))
    (rs_cons (rs_if (rt_cmp (op_eq_any hr) (re_var 1) re_int (by rfl)) (rs_cons (rs_asg (re_sub (ix_any hr) (re_lst (ra_cons (re_tup (ra_cons re_int (ra_cons re_int ra_nil))) (ra_cons (re_tup (ra_cons re_int (ra_cons re_int ra_nil))) ra_nil))) (re_fz 9 (re_call G__law_draw (hr.mono (by decide)) rfl g__law_draw F__law_draw.kp B__law_draw .nil (fun _ _ _ => rfl) pass_any (ra_cons (re_var 0) (ra_cons re_int ra_nil)))) (fun _ _ => rfl)) (rg_tp rfl (rgs_cons (rg_nm sc__law_small.nd) (rgs_cons (rg_nm sc__law_small.nd) rgs_nil))))
    (rs_one (rs_ret (re_tup (ra_cons (re_var 1) (ra_cons (re_fz 9 (re_call G__law_made_rows (hr.mono (by decide)) rfl g__law_made_rows F__law_made_rows.kp B__law_made_rows .nil (fun _ _ _ => rfl) pass_any (ra_cons (re_var 0) (ra_cons re_int (ra_cons (re_op op_add_any re_int (re_fz 9 (re_call G__law_draw (hr.mono (by decide)) rfl g__law_draw F__law_draw.kp B__law_draw .nil (fun _ _ _ => rfl) pass_any (ra_cons (re_var 0) (ra_cons (re_var 2) ra_nil))))) (ra_cons (re_var 3) (ra_cons (re_sub (ix_any hr) (re_lst (ra_cons re_int (ra_cons re_int ra_nil))) (re_fz 9 (re_call G__law_draw (hr.mono (by decide)) rfl g__law_draw F__law_draw.kp B__law_draw .nil (fun _ _ _ => rfl) pass_any (ra_cons (re_var 0) (ra_cons re_int ra_nil)))) (fun _ _ => rfl)) ra_nil))))))) ra_nil)))))) rs_nil)
    (rs_one (rs_ret (re_tup (ra_cons (re_var 1) (ra_cons (re_fz 9 (re_call G__law_made_rows (hr.mono (by decide)) rfl g__law_made_rows F__law_made_rows.kp B__law_made_rows .nil (fun _ _ _ => rfl) pass_any (ra_cons (re_var 0) (ra_cons re_int (ra_cons (re_op op_add_any re_int (re_fz 9 (re_call G__law_draw (hr.mono (by decide)) rfl g__law_draw F__law_draw.kp B__law_draw .nil (fun _ _ _ => rfl) pass_any (ra_cons (re_var 0) (ra_cons re_int ra_nil))))) (ra_cons (re_sub (ix_any hr) (re_lst (ra_cons re_int (ra_cons re_int ra_nil))) (re_op op_div_int (re_fz 9 (re_call G__law_draw (hr.mono (by decide)) rfl g__law_draw F__law_draw.kp B__law_draw .nil (fun _ _ _ => rfl) pass_any (ra_cons (re_var 0) (ra_cons re_int ra_nil)))) re_int) (fun _ _ => rfl)) (ra_cons re_int ra_nil))))))) ra_nil)))))))
theorem sc_is_name : FnScope N_is_name (N_is_name.take 1) (defScope st_is_name) := ⟨rfl, rfl, rfl, by decide +kernel, rfl, by decide +kernel, by decide +kernel⟩
theorem ok_is_name {w : World} {K : PySem.W.Frag} {mg : Str → Option Value} {base : Heap} (W : Wd facts defs gets errs K mg base) {fd : FuncData} (F : FunD K "is_name" "is_name" (defArgs st_is_name) (defBody st_is_name) (defScope st_is_name) [] [] (He.fAd K d_is_name.at_) fd) :
    FnG prg w K mg base CX0 1 (He.fAd K d_is_name.at_) fd (N_is_name.take 1) (spOf K ⟨mg, w⟩ 1 fn_is_name) := by
  have b_len := W.free 4 (x := "len") rfl
  obtain ⟨t_MOST_LETTERS, k_MOST_LETTERS⟩ := W.int 16 (x := "MOST_LETTERS") (n := 8) rfl
  obtain ⟨t_LETTERS, k_LETTERS⟩ := W.str 17 (x := "LETTERS") (z := "abcdefghijklmnopqrstuvwxyz") rfl
  have b_all := W.free 18 (x := "all") rfl
  refine fn_ok0 (ms := ms_is_name) F sc_is_name fun cdv A outer s H E hr => ?_
  unfold ms_is_name
  exact (rs_one (rs_ret (re_and (re_chain op_le_int op_le_int re_int (re_cb cb_len rfl b_len (by rfl) (ra_cons (re_var 0) ra_nil)) (re_glo (y := .int 8) (v := .int 8) rfl k_MOST_LETTERS ⟨_, rfl⟩ (fun _ _ _ => rfl))) (re_one (re_cb (cb_all rfl) rfl b_all (by rfl) (ra_cons (re_comp (own := [("sign", 1)]) rfl sc_is_name.nd (ri_any (re_var 0)) (blkOk_by (own := [("sign", 1)]) (by kernel_rfl)) (fun _ _ _ _ _ => (rg_nm sc_is_name.nd)) (fun _ _ _ _ _ => rts_nil) (fun _ _ _ _ _ => (re_cmp (op_in_any hr) (re_var 1) (re_glo (y := .str "abcdefghijklmnopqrstuvwxyz") (v := .str "abcdefghijklmnopqrstuvwxyz") rfl k_LETTERS ⟨_, rfl⟩ (fun _ _ _ => rfl)) (by rfl)))) ra_nil))))))
theorem sc_is_read : FnScope N_is_read (N_is_read.take 2) (defScope st_is_read) := ⟨rfl, rfl, rfl, by decide +kernel, rfl, by decide +kernel, by decide +kernel⟩
theorem ok_is_read {w : World} {K : PySem.W.Frag} {mg : Str → Option Value} {base : Heap} (W : Wd facts defs gets errs K mg base) {fd : FuncData} (F : FunD K "is_read" "is_read" (defArgs st_is_read) (defBody st_is_read) (defScope st_is_read) [] [] (He.fAd K d_is_read.at_) fd) :
    FnG prg w K mg base CX0 2 (He.fAd K d_is_read.at_) fd (N_is_read.take 2) (spOf K ⟨mg, w⟩ 2 fn_is_read) := by
  obtain ⟨fd_is_name, F_is_name⟩ := W.c.def_ 9 (d := d_is_name) rfl
  have G_is_name := ok_is_name (w := w) W F_is_name
  have g_is_name := W.glo 19 (x := "is_name") rfl
  have B_is_name := FunD.bindsN (ps := N_is_name.take 1) F_is_name (fun _ _ _ _ _ _ us hl => match us, hl with | [_], _ => rfl)
  have b_len := W.free 4 (x := "len") rfl
  refine fn_ok0 (ms := ms_is_read) F sc_is_read fun cdv A outer s H E hr => ?_
  unfold ms_is_read
  exact (rs_cons (rs_asg (re_var 0) (rg_tp rfl (rgs_cons (rg_nm sc_is_read.nd) (rgs_cons (rg_nm sc_is_read.nd) (rgs_cons (rg_nm sc_is_read.nd) rgs_nil)))))
    (rs_one (rs_ret (re_and (re_fz 9 (re_call G_is_name (hr.mono (by decide)) rfl g_is_name F_is_name.kp B_is_name .nil (fun _ _ _ => rfl) pass_any (ra_cons (re_var 2) ra_nil))) (re_and (re_cmp (op_eq_any hr) (re_cb cb_len rfl b_len (by rfl) (ra_cons (re_var 3) ra_nil)) (re_var 1) (by rfl)) (re_one (re_cmp (op_ne_any hr) (re_var 4) re_int (by rfl))))))))
theorem sc_check_system : FnScope N_check_system (N_check_system.take 3) (defScope st_check_system) := ⟨rfl, rfl, rfl, by decide +kernel, rfl, by decide +kernel, by decide +kernel⟩
theorem ok_check_system {w : World} {K : PySem.W.Frag} {mg : Str → Option Value} {base : Heap} (W : Wd facts defs gets errs K mg base) {fd : FuncData} (F : FunD K "check_system" "check_system" (defArgs st_check_system) (defBody st_check_system) (defScope st_check_system) [] [] (He.fAd K d_check_system.at_) fd) :
    FnG prg w K mg base CX0 3 (He.fAd K d_check_system.at_) fd (N_check_system.take 3) (spOf K ⟨mg, w⟩ 3 fn_check_system) := by
  obtain ⟨t_MOST_DIMENSIONS, k_MOST_DIMENSIONS⟩ := W.int 13 (x := "MOST_DIMENSIONS") (n := 3) rfl
  have b_len := W.free 4 (x := "len") rfl
  obtain ⟨t_MOST_TABLES, k_MOST_TABLES⟩ := W.int 14 (x := "MOST_TABLES") (n := 6) rfl
  have b_enumerate := W.free 15 (x := "enumerate") rfl
  obtain ⟨fd_is_name, F_is_name⟩ := W.c.def_ 9 (d := d_is_name) rfl
  have G_is_name := ok_is_name (w := w) W F_is_name
  have g_is_name := W.glo 19 (x := "is_name") rfl
  have B_is_name := FunD.bindsN (ps := N_is_name.take 1) F_is_name (fun _ _ _ _ _ _ us hl => match us, hl with | [_], _ => rfl)
  obtain ⟨t_MOST_READS, k_MOST_READS⟩ := W.int 20 (x := "MOST_READS") (n := 12) rfl
  obtain ⟨fd_is_read, F_is_read⟩ := W.c.def_ 10 (d := d_is_read) rfl
  have G_is_read := ok_is_read (w := w) W F_is_read
  have g_is_read := W.glo 21 (x := "is_read") rfl
  have B_is_read := FunD.bindsN (ps := N_is_read.take 2) F_is_read (fun _ _ _ _ _ _ us hl => match us, hl with | [_, _], _ => rfl)
  have b_all := W.free 18 (x := "all") rfl
  refine fn_ok0 (ms := ms_check_system) F sc_check_system fun cdv A outer s H E hr => ?_
  unfold ms_check_system
  exact (rs_cons (rs_if (rt_not (rt_chain op_le_int op_le_int re_int (re_var 0) (re_glo (y := .int 3) (v := .int 3) rfl k_MOST_DIMENSIONS ⟨_, rfl⟩ (fun _ _ _ => rfl)))) (rs_one rs_never) rs_nil)
    (rs_cons (rs_if (rt_not (rt_chain op_le_int op_le_int re_int (re_cb cb_len rfl b_len (by rfl) (ra_cons (re_var 1) ra_nil)) (re_glo (y := .int 6) (v := .int 6) rfl k_MOST_TABLES ⟨_, rfl⟩ (fun _ _ _ => rfl)))) (rs_one rs_never) rs_nil)
    (rs_cons (rs_asg (re_tup (ra_cons re_dnew (ra_cons re_int ra_nil))) (rg_tp rfl (rgs_cons (rg_nm sc_check_system.nd) (rgs_cons (rg_nm sc_check_system.nd) rgs_nil))))
    (rs_cons (rs_for PassesOwn.never rfl (ri_enum rfl b_enumerate (ra_cons (re_var 1) ra_nil)) (rg_tp rfl (rgs_cons (rg_nm sc_check_system.nd) (rgs_cons (rg_tp rfl (rgs_cons (rg_nm sc_check_system.nd) (rgs_cons (rg_nm sc_check_system.nd) (rgs_cons (rg_nm sc_check_system.nd) rgs_nil)))) rgs_nil))) (rs_cons (rs_set (i := 4) sc_check_system.nd (re_op op_add_any (re_var 4) (re_cb cb_len rfl b_len (by rfl) (ra_cons (re_var 8) ra_nil))))
    (rs_cons (rs_set (i := 9) sc_check_system.nd (re_or (re_not (re_fz 9 (re_call G_is_name (hr.mono (by decide)) rfl g_is_name F_is_name.kp B_is_name .nil (fun _ _ _ => rfl) pass_any (ra_cons (re_var 6) ra_nil)))) (re_or (re_cmp (op_in_any hr) (re_var 6) (re_var 3) (by rfl)) (re_one (re_cmp op_gt_int (re_var 4) (re_glo (y := .int 12) (v := .int 12) rfl k_MOST_READS ⟨_, rfl⟩ (fun _ _ _ => rfl)) (by rfl))))))
    (rs_cons (rs_if (PW.pt (rw_or (rt_tru (re_var 9)) (rw_or1 (rt_not (rt_tru (re_cb (cb_all rfl) rfl b_all (by rfl) (ra_cons (re_comp (own := [("read", 13)]) rfl sc_check_system.nd (ri_any (re_var 8)) (blkOk_by (own := [("read", 13)]) (by kernel_rfl)) (fun _ _ _ _ _ => (rg_nm sc_check_system.nd)) (fun _ _ _ _ _ => rts_nil) (fun _ _ _ _ _ => (re_fz 9 (re_call G_is_read (hr.mono (by decide)) rfl g_is_read F_is_read.kp B_is_read .nil (fun _ _ _ => rfl) pass_any (ra_cons (re_var 13) (ra_cons (re_var 0) ra_nil)))))) ra_nil))))))) (rs_one rs_never) rs_nil)
    (rs_one (rs_dput hr (re_var 3) (re_var 6) re_bl))))))
    (rs_cons (rs_for PassesOwn.never rfl (ri_enum rfl b_enumerate (ra_cons (re_var 1) ra_nil)) (rg_tp rfl (rgs_cons (rg_nm sc_check_system.nd) (rgs_cons (rg_tp rfl (rgs_cons (rg_nm sc_check_system.nd) (rgs_cons (rg_nm sc_check_system.nd) (rgs_cons (rg_nm sc_check_system.nd) rgs_nil)))) rgs_nil))) (rs_one (rs_if (rt_not (rt_tru (re_cb (cb_all rfl) rfl b_all (by rfl) (ra_cons (re_comp (own := [("table", 10), ("vector", 11), ("factor", 12)]) rfl sc_check_system.nd (ri_any (re_var 8)) (blkOk_by (own := [("table", 10), ("vector", 11), ("factor", 12)]) (by kernel_rfl)) (fun _ _ _ _ _ => (rg_tp rfl (rgs_cons (rg_nm sc_check_system.nd) (rgs_cons (rg_nm sc_check_system.nd) (rgs_cons (rg_nm sc_check_system.nd) rgs_nil))))) (fun _ _ _ _ _ => rts_nil) (fun _ _ _ _ _ => (re_cmp (op_in_any hr) (re_var 10) (re_var 3) (by rfl)))) ra_nil)))) (rs_one rs_never) rs_nil)))
    (rs_one (rs_if (rt_cmp op_lt_int (re_var 2) re_int (by rfl)) (rs_one rs_never) rs_nil)))))))
theorem sc_System_init : FnScope N_System_init (N_System_init.take 4) (defScope st_System_init) := ⟨rfl, rfl, rfl, by decide +kernel, rfl, by decide +kernel, by decide +kernel⟩
theorem ok_System_init {w : World} {K : PySem.W.Frag} {mg : Str → Option Value} {base : Heap} (W : Wd facts defs gets errs K mg base) {fd : FuncData} (F : FunD K "__init__" "System.__init__" (defArgs st_System_init) (defBody st_System_init) (defScope st_System_init) [(.int 1000003)] [] (He.fAd K d_System_init.at_) fd) :
    FnG prg w K mg base CX0 4 (He.fAd K d_System_init.at_) fd (N_System_init.take 4) (spOf K ⟨mg, w⟩ 4 fn_System_init) := by
  obtain ⟨fd_check_system, F_check_system⟩ := W.c.def_ 8 (d := d_check_system) rfl
  have G_check_system := ok_check_system (w := w) W F_check_system
  have g_check_system := W.glo 22 (x := "check_system") rfl
  have B_check_system := FunD.bindsN (ps := N_check_system.take 3) F_check_system (fun _ _ _ _ _ _ us hl => match us, hl with | [_, _, _], _ => rfl)
  have g_System := W.glo 23 (x := "System") rfl
  have c_System := W.cls 24 (x := "System") rfl
  have n_System_dimension_count := W.noat 25 (x := "System") (f := "dimension_count") rfl
  have n_System_kept_modulus := W.noat 26 (x := "System") (f := "kept_modulus") rfl
  have n_System_kept_tables := W.noat 27 (x := "System") (f := "kept_tables") rfl
  have b_sorted := W.free 28 (x := "sorted") rfl
  have b_tuple := W.free 9 (x := "tuple") rfl
  have n_System_named_reads := W.noat 29 (x := "System") (f := "named_reads") rfl
  have b_range := W.free 3 (x := "range") rfl
  have b_len := W.free 4 (x := "len") rfl
  refine fn_ok0L (ms := ms_System_init) (at_ := d_System_init.at_) F sc_System_init fun A outer s H E hr => ?_
  unfold ms_System_init
  exact (rs_cons (rs_expr (re_fz 9 (re_call G_check_system (hr.mono (by decide)) rfl g_check_system F_check_system.kp B_check_system .nil (fun _ _ _ => rfl) pass_any (ra_cons (re_var 1) (ra_cons (re_var 2) (ra_cons (re_var 3) ra_nil))))))
    (rs_cons (rs_fld g_System c_System n_System_dimension_count (re_var 0) (re_var 1))
    (rs_cons (rs_fld g_System c_System n_System_kept_modulus (re_var 0) (re_var 3))
    (rs_cons (rs_fld g_System c_System n_System_kept_tables (re_var 0) re_dnew)
    (rs_cons (rs_for PassesOwn.never rfl (ri_any (re_sortK0 rfl b_sorted (re_var 2) hr (W.tb ("System", some "__init__") (List.mem_of_getElem? (i := 0) (by rfl))) rfl (List.mem_of_getElem? (i := 0) (by rfl)) (tab_uniq W (i := 0) (by rfl)) rfl (by intro y hy e; exact absurd e ((by decide +kernel : ∀ y ∈ [(("table" : Str), NameKind.local)], y.2 ≠ NameKind.free) y hy)) rfl rfl rfl (by intro y hy; exact (by decide +kernel : ∀ y ∈ [(("table" : Str), NameKind.local)], y.2 ≠ NameKind.cell) y hy) rfl (by decide) (fun _ _ _ _ _ _ => rfl))) (rg_tp rfl (rgs_cons (rg_nm sc_System_init.nd) (rgs_cons (rg_nm sc_System_init.nd) (rgs_cons (rg_nm sc_System_init.nd) rgs_nil)))) (rs_one (rs_dput hr (re_fld g_System c_System n_System_kept_tables (re_var 0)) (re_var 4) (re_tup (ra_cons (re_var 5) (ra_cons (re_cty cb_tuple rfl b_tuple (by rfl) (ra_cons (re_var 6) ra_nil)) ra_nil))))))
    (rs_fzF (i := 0) (cn := "System") (f := "kept_tables") (n := 9) (rs_one (rs_fld g_System c_System n_System_named_reads (re_var 0) (re_cty cb_tuple rfl b_tuple (by rfl) (ra_cons (re_comp2 (own := [("name", 4), ("constant", 5), ("reads", 6), ("number", 7)]) (vs1 := [7]) rfl sc_System_init.nd (ri_items (re_fld g_System c_System n_System_kept_tables (re_var 0))) (blkOk_by (own := [("name", 4), ("constant", 5), ("reads", 6), ("number", 7)]) (by kernel_rfl)) (fun _ _ _ _ _ => (rg_tp rfl (rgs_cons (rg_nm sc_System_init.nd) (rgs_cons (rg_tp rfl (rgs_cons (rg_nm sc_System_init.nd) (rgs_cons (rg_nm sc_System_init.nd) rgs_nil))) rgs_nil)))) (fun _ _ _ _ _ => rts_nil) (fun _ _ _ _ _ => (ri_range1 rfl b_range (ra_cons (re_cb cb_len rfl b_len (by rfl) (ra_cons (re_var 6) ra_nil)) ra_nil))) (fun _ _ _ _ _ => (rg_nm sc_System_init.nd)) (fun _ _ _ _ _ => rts_nil) (fun _ _ _ _ _ => (re_tup (ra_cons (re_var 4) (ra_cons (re_var 7) ra_nil))))) ra_nil))))))))))
theorem sc__law_point : FnScope N__law_point (N__law_point.take 2) (defScope st__law_point) := ⟨rfl, rfl, rfl, by decide +kernel, rfl, by decide +kernel, by decide +kernel⟩
theorem ok__law_point {w : World} {K : PySem.W.Frag} {mg : Str → Option Value} {base : Heap} (W : Wd facts defs gets errs K mg base) {fd : FuncData} (F : FunD K "_law_point" "_law_point" (defArgs st__law_point) (defBody st__law_point) (defScope st__law_point) [] [] (He.fAd K d__law_point.at_) fd) :
    FnG prg w K mg base CX0 2 (He.fAd K d__law_point.at_) fd (N__law_point.take 2) (spOf K ⟨mg, w⟩ 2 fn__law_point) := by
  obtain ⟨fd__law_draw, F__law_draw⟩ := W.c.def_ 3 (d := d__law_draw) rfl
  have G__law_draw := ok__law_draw (w := w) W F__law_draw
  have g__law_draw := W.glo 6 (x := "_law_draw") rfl
  have B__law_draw := FunD.bindsN (ps := N__law_draw.take 2) F__law_draw (fun _ _ _ _ _ _ us hl => match us, hl with | [_, _], _ => rfl)
  have b_range := W.free 3 (x := "range") rfl
  have b_tuple := W.free 9 (x := "tuple") rfl
  refine fn_ok0 (ms := ms__law_point) F sc__law_point fun cdv A outer s H E hr => ?_
  unfold ms__law_point
  exact (rs_cons (rs_set (i := 2) sc__law_point.nd (re_sub (ix_any hr) (re_sub (ix_any hr) (re_lst (ra_cons (re_lst (ra_cons re_int (ra_cons re_int (ra_cons re_int ra_nil)))) (ra_cons (re_lst (ra_cons re_int (ra_cons re_int (ra_cons re_int ra_nil)))) ra_nil))) (re_op op_sub_int (re_var 1) re_int) (fun _ _ => rfl)) (re_fz 9 (re_call G__law_draw (hr.mono (by decide)) rfl g__law_draw F__law_draw.kp B__law_draw .nil (fun _ _ _ => rfl) pass_any (ra_cons (re_var 0) (ra_cons re_int ra_nil)))) (fun _ _ => rfl)))
    (rs_one (rs_ret (re_cty cb_tuple rfl b_tuple (by rfl) (ra_cons (re_comp (own := [("_law_axis", 3)]) rfl sc__law_point.nd (ri_range1 rfl b_range (ra_cons (re_var 1) ra_nil)) (blkOk_by (own := [("_law_axis", 3)]) (by kernel_rfl)) (fun _ _ _ _ _ => (rg_nm sc__law_point.nd)) (fun _ _ _ _ _ => rts_nil) (fun _ _ _ _ _ => (re_fz 9 (re_call G__law_draw (hr.mono (by decide)) rfl g__law_draw F__law_draw.kp B__law_draw .nil (fun _ _ _ => rfl) pass_any (ra_cons (re_var 0) (ra_cons (re_var 2) ra_nil)))))) ra_nil)))))
theorem sc_System_names : FnScope N_System_names (N_System_names.take 1) (defScope st_System_names) := ⟨rfl, rfl, rfl, by decide +kernel, rfl, by decide +kernel, by decide +kernel⟩
theorem ok_System_names {w : World} {K : PySem.W.Frag} {mg : Str → Option Value} {base : Heap} (W : Wd facts defs gets errs K mg base) {fd : FuncData} (F : FunD K "names" "System.names" (defArgs st_System_names) (defBody st_System_names) (defScope st_System_names) [] [] (geA K "System" "names") fd) :
    FnG prg w K mg base CX0 1 (geA K "System" "names") fd (N_System_names.take 1) (spOf K ⟨mg, w⟩ 1 fn_System_names) := by
  have g_System := W.glo 23 (x := "System") rfl
  have c_System := W.cls 24 (x := "System") rfl
  have n_System_kept_tables := W.noat 27 (x := "System") (f := "kept_tables") rfl
  have b_list := W.free 7 (x := "list") rfl
  refine fn_ok0 (ms := ms_System_names) F sc_System_names fun cdv A outer s H E hr => ?_
  unfold ms_System_names
  exact (rs_one (rs_ret (re_cty (cb_listD rfl) rfl b_list (by rfl) (ra_cons (re_fld g_System c_System n_System_kept_tables (re_var 0)) ra_nil))))
theorem sc__law_from : FnScope N__law_from (N__law_from.take 2) (defScope st__law_from) := ⟨rfl, rfl, rfl, by decide +kernel, rfl, by decide +kernel, by decide +kernel⟩
theorem ok__law_from {w : World} {K : PySem.W.Frag} {mg : Str → Option Value} {base : Heap} (W : Wd facts defs gets errs K mg base) {fd : FuncData} (F : FunD K "_law_from" "_law_from" (defArgs st__law_from) (defBody st__law_from) (defScope st__law_from) [] [] (He.fAd K d__law_from.at_) fd) :
    FnG prg w K mg base CX0 1 (He.fAd K d__law_from.at_) fd (N__law_from.take 2) (spOf K ⟨mg, w⟩ 2 fn__law_from) := by
  have b_zip := W.free 33 (x := "zip") rfl
  have b_tuple := W.free 9 (x := "tuple") rfl
  have b_min := W.free 5 (x := "min") rfl
  refine fn_ok0 (ms := ms__law_from) F sc__law_from fun cdv A outer s H E hr => ?_
  unfold ms__law_from
  exact (rs_cons (rs_set (i := 2) sc__law_from.nd (re_lstR ra_nil))
    (rs_cons (rs_for PassesOwn.never rfl (ri_any (re_var 0)) (rg_tp rfl (rgs_cons (rg_nm sc__law_from.nd) (rgs_cons (rg_nm sc__law_from.nd) (rgs_cons (rg_nm sc__law_from.nd) rgs_nil)))) (rs_one (rs_for PassesOwn.never rfl (ri_any (re_ifE (rt_cmp (op_eq_any hr) (re_var 3) (re_sub (ix_any hr) (re_var 1) re_int (fun _ _ => rfl)) (by rfl)) (re_var 5) (re_lst ra_nil))) (rg_tp rfl (rgs_cons (rg_nm sc__law_from.nd) (rgs_cons (rg_nm sc__law_from.nd) (rgs_cons (rg_nm sc__law_from.nd) rgs_nil)))) (rs_cons (rs_set (i := 9) sc__law_from.nd (re_cty cb_tuple rfl b_tuple (by rfl) (ra_cons (re_comp (own := [("_law_one", 10), ("_law_step", 11)]) rfl sc__law_from.nd (ri_zip rfl b_zip (ra_cons (re_sub (ix_any hr) (re_var 1) re_int (fun _ _ => rfl)) (ra_cons (re_var 7) ra_nil))) (blkOk_by (own := [("_law_one", 10), ("_law_step", 11)]) (by kernel_rfl)) (fun _ _ _ _ _ => (rg_tp rfl (rgs_cons (rg_nm sc__law_from.nd) (rgs_cons (rg_nm sc__law_from.nd) rgs_nil)))) (fun _ _ _ _ _ => rts_nil) (fun _ _ _ _ _ => (re_op op_sub_int (re_var 10) (re_var 11)))) ra_nil)))
    (rs_one (rs_if (rt_cmp op_ge_int (re_cb (cb_min rfl hr) rfl b_min (by rfl) (ra_cons (re_var 9) ra_nil)) re_int (by rfl)) (rs_one (rs_expr (re_bm PySem.F.plainAttrs_list PySem.F.slot_list_append PySem.F.type_list_append mt_append_e isLst_ty (re_var 2) (ra_cons (re_tup (ra_cons (re_var 6) (ra_cons (re_var 9) ra_nil))) ra_nil)))) rs_nil))))))
    (rs_one (rs_ret (re_var 2)))))
theorem sc__law_is_below : FnScope N__law_is_below (N__law_is_below.take 2) (defScope st__law_is_below) := ⟨rfl, rfl, rfl, by decide +kernel, rfl, by decide +kernel, by decide +kernel⟩
theorem ok__law_is_below {w : World} {K : PySem.W.Frag} {mg : Str → Option Value} {base : Heap} (W : Wd facts defs gets errs K mg base) {fd : FuncData} (F : FunD K "_law_is_below" "_law_is_below" (defArgs st__law_is_below) (defBody st__law_is_below) (defScope st__law_is_below) [] [] (He.fAd K d__law_is_below.at_) fd) :
    FnG prg w K mg base CX0 1 (He.fAd K d__law_is_below.at_) fd (N__law_is_below.take 2) (spOf K ⟨mg, w⟩ 2 fn__law_is_below) := by
  have b_zip := W.free 33 (x := "zip") rfl
  refine fn_ok0 (ms := ms__law_is_below) F sc__law_is_below fun cdv A outer s H E hr => ?_
  unfold ms__law_is_below
  exact (rs_one (rs_ret (re_cmp (op_eq_any hr) (re_comp (own := [("_law_a", 2), ("_law_b", 3)]) rfl sc__law_is_below.nd (ri_zip rfl b_zip (ra_cons (re_var 0) (ra_cons (re_var 1) ra_nil))) (blkOk_by (own := [("_law_a", 2), ("_law_b", 3)]) (by kernel_rfl)) (fun _ _ _ _ _ => (rg_tp rfl (rgs_cons (rg_nm sc__law_is_below.nd) (rgs_cons (rg_nm sc__law_is_below.nd) rgs_nil)))) (fun _ _ _ _ _ => (rts_one (rt_cmp op_gt_int (re_var 2) (re_var 3) (by rfl)))) (fun _ _ _ _ _ => re_int)) (re_lst ra_nil) (by rfl))))
theorem sc__law_lengths : FnScope N__law_lengths (N__law_lengths.take 2) (defScope st__law_lengths) := ⟨rfl, rfl, rfl, by decide +kernel, rfl, by decide +kernel, by decide +kernel⟩
theorem ok__law_lengths {w : World} {K : PySem.W.Frag} {mg : Str → Option Value} {base : Heap} (W : Wd facts defs gets errs K mg base) {fd : FuncData} (F : FunD K "_law_lengths" "_law_lengths" (defArgs st__law_lengths) (defBody st__law_lengths) (defScope st__law_lengths) [] [] (He.fAd K d__law_lengths.at_) fd) :
    FnG prg w K mg base CX0 2 (He.fAd K d__law_lengths.at_) fd (N__law_lengths.take 2) (spOf K ⟨mg, w⟩ 2 fn__law_lengths) := by
  have b_sorted := W.free 28 (x := "sorted") rfl
  have b_set := W.free 32 (x := "set") rfl
  obtain ⟨fd__law_from, F__law_from⟩ := W.c.def_ 13 (d := d__law_from) rfl
  have G__law_from := ok__law_from (w := w) W F__law_from
  have g__law_from := W.glo 34 (x := "_law_from") rfl
  have B__law_from := FunD.bindsN (ps := N__law_from.take 2) F__law_from (fun _ _ _ _ _ _ us hl => match us, hl with | [_, _], _ => rfl)
  obtain ⟨fd__law_is_below, F__law_is_below⟩ := W.c.def_ 14 (d := d__law_is_below) rfl
  have G__law_is_below := ok__law_is_below (w := w) W F__law_is_below
  have g__law_is_below := W.glo 35 (x := "_law_is_below") rfl
  have B__law_is_below := FunD.bindsN (ps := N__law_is_below.take 2) F__law_is_below (fun _ _ _ _ _ _ us hl => match us, hl with | [_, _], _ => rfl)
  have b_len := W.free 4 (x := "len") rfl
  have b_dict := W.free 36 (x := "dict") rfl
  have b_max := W.free 37 (x := "max") rfl
  refine fn_ok0 (ms := ms__law_lengths) F sc__law_lengths fun cdv A outer s H E hr => ?_
  unfold ms__law_lengths
  exact (rs_cons (rs_asg (re_tup (ra_cons (re_dispN hr (re_var 1) re_non) (ra_cons (re_lstR (ra_cons (re_var 1) ra_nil)) (ra_cons re_dnewN (ra_cons re_dnewN ra_nil))))) (rg_tp rfl (rgs_cons (rg_nm sc__law_lengths.nd) (rgs_cons (rg_nm sc__law_lengths.nd) (rgs_cons (rg_nm sc__law_lengths.nd) (rgs_cons (rg_nm sc__law_lengths.nd) rgs_nil))))))
    (rs_cons (rs_while PassesOwn.never (rt_cmp (op_ne_any hr) (re_var 3) (re_lst ra_nil) (by rfl)) (rs_cons (rs_set (i := 9) sc__law_lengths.nd (re_bm PySem.F.plainAttrs_list PySem.F.slot_list_pop PySem.F.type_list_pop mt_pop_e isLst_ty (re_var 3) (ra_cons re_int ra_nil)))
    (rs_cons (rs_dputN hr (re_var 4) (re_var 9) (re_sortSetN hr rfl rfl b_sorted rfl b_set (re_fz 9 (re_call G__law_from (hr.mono (by decide)) rfl g__law_from F__law_from.kp B__law_from .nil (fun _ _ _ => rfl) pass_any (ra_cons (re_var 0) (ra_cons (re_var 9) ra_nil))))))
    (rs_cons (rs_for PassesOwn.never rfl (ri_any (re_sub (ix_N hr) (re_var 4) (re_var 9) (fun _ _ => rfl))) (rg_nm sc__law_lengths.nd) (rs_cons (rs_expr (re_bm PySem.F.plainAttrs_list PySem.F.slot_list_append PySem.F.type_list_append mt_append_e isLst_ty (re_setdN hr (re_var 5) (re_var 10) (re_lstR ra_nil)) (ra_cons (re_var 9) ra_nil)))
    (rs_one (rs_if (rt_cmp (op_notinN hr) (re_var 10) (re_var 2) (by rfl)) (rs_cons (rs_set (i := 12) sc__law_lengths.nd (re_var 9))
    (rs_cons (rs_while PassesOwn.never (rt_cmp op_isnot_n (re_var 12) re_non (by rfl)) (rs_cons (rs_if (PW.pt (rw_and (rt_cmp (op_eq_any hr) (re_sub (ix_any hr) (re_var 12) re_int (fun _ _ => rfl)) (re_sub (ix_any hr) (re_var 10) re_int (fun _ _ => rfl)) (by rfl)) (rw_and1 (rt_tru (re_fz 9 (re_call G__law_is_below (hr.mono (by decide)) rfl g__law_is_below F__law_is_below.kp B__law_is_below .nil (fun _ _ _ => rfl) pass_any (ra_cons (re_sub (ix_any hr) (re_var 12) re_int (fun _ _ => rfl)) (ra_cons (re_sub (ix_any hr) (re_var 10) re_int (fun _ _ => rfl)) ra_nil)))))))) (rs_one (rs_ret re_non)) rs_nil)
    (rs_one (rs_set (i := 12) sc__law_lengths.nd (re_sub (ix_N hr) (re_var 2) (re_var 12) (fun _ _ => rfl))))))
    (rs_cons (rs_dputN hr (re_var 2) (re_var 10) (re_var 9))
    (rs_one (rs_expr (re_bm PySem.F.plainAttrs_list PySem.F.slot_list_append PySem.F.type_list_append mt_append_e isLst_ty (re_var 3) (ra_cons (re_var 10) ra_nil))))))) rs_nil))))
    (rs_one (rs_if (rt_cmp op_gt_int (re_cb cb_lenN rfl b_len (by rfl) (ra_cons (re_var 2) ra_nil)) re_int (by rfl)) (rs_one (rs_ret re_dnewN)) rs_nil))))))
    (rs_fzS (i := 4) (n := 9) (rs_cons (rs_set (i := 6) sc__law_lengths.nd (re_cty (cb_dictPN rfl hr) rfl b_dict (by rfl) (ra_cons (re_comp (own := [("_law_here", 9)]) rfl sc__law_lengths.nd (ri_keysN (re_var 4)) (blkOk_by (own := [("_law_here", 9)]) (by kernel_rfl)) (fun _ _ _ _ _ => (rg_nm sc__law_lengths.nd)) (fun _ _ _ _ _ => rts_nil) (fun _ _ _ _ _ => (re_tup (ra_cons (re_var 9) (ra_cons (re_cb cb_len rfl b_len (by rfl) (ra_cons (re_sub (ix_Dn hr) (re_var 4) (re_var 9) (fun _ _ => rfl)) ra_nil)) ra_nil))))) ra_nil)))
    (rs_cons (rs_setCompR (own := [("_law_here", 9)]) rfl sc__law_lengths.nd (sw_true rfl rfl rfl rfl) (ri_keysN (re_var 4)) (blkOk_by (own := [("_law_here", 9)]) (by kernel_rfl)) (fun _ _ _ _ _ => (rg_nm sc__law_lengths.nd)) (fun _ _ _ _ _ => (rts_one (rt_cmp (op_eq_any hr) (re_sub (ix_N hr) (re_var 6) (re_var 9) (fun _ _ => rfl)) re_int (by rfl)))) (fun _ _ _ _ _ => (re_var 9)))
    (rs_cons (rs_set (i := 8) sc__law_lengths.nd (re_cty (cb_dictPN rfl hr) rfl b_dict (by rfl) (ra_cons (re_comp (own := [("_law_here", 9)]) rfl sc__law_lengths.nd (ri_any (re_var 7)) (blkOk_by (own := [("_law_here", 9)]) (by kernel_rfl)) (fun _ _ _ _ _ => (rg_nm sc__law_lengths.nd)) (fun _ _ _ _ _ => rts_nil) (fun _ _ _ _ _ => (re_tup (ra_cons (re_var 9) (ra_cons re_int ra_nil))))) ra_nil)))
    (rs_cons (rs_while PassesOwn.never (rt_cmp (op_ne_any hr) (re_var 7) (re_lst ra_nil) (by rfl)) (rs_cons (rs_set (i := 9) sc__law_lengths.nd (re_bm0 PySem.F.plainAttrs_list PySem.F.slot_list_pop PySem.F.type_list_pop mt_pop_e isLst_ty (re_var 7)))
    (rs_one (rs_for PassesOwn.never rfl (ri_any (re_getN hr (re_var 5) (re_var 9) (re_lst ra_nil))) (rg_nm sc__law_lengths.nd) (rs_cons (rs_dputN hr (re_var 6) (re_var 11) (re_op op_sub_int (re_sub (ix_N hr) (re_var 6) (re_var 11) (fun _ _ => rfl)) re_int))
    (rs_one (rs_if (rt_cmp (op_eq_any hr) (re_sub (ix_N hr) (re_var 6) (re_var 11) (fun _ _ => rfl)) re_int (by rfl)) (rs_cons (rs_dputN hr (re_var 8) (re_var 11) (re_op op_add_any re_int (re_cb (cb_max rfl hr) rfl b_max (by rfl) (ra_cons (re_comp (own := [("_law_other", 10)]) rfl sc__law_lengths.nd (ri_any (re_sub (ix_Dn hr) (re_var 4) (re_var 11) (fun _ _ => rfl))) (blkOk_by (own := [("_law_other", 10)]) (by kernel_rfl)) (fun _ _ _ _ _ => (rg_nm sc__law_lengths.nd)) (fun _ _ _ _ _ => rts_nil) (fun _ _ _ _ _ => (re_sub (ix_N hr) (re_var 8) (re_var 10) (fun _ _ => rfl)))) ra_nil))))
    (rs_one (rs_expr (re_bm PySem.F.plainAttrs_list PySem.F.slot_list_append PySem.F.type_list_append mt_append_e isLst_ty (re_var 7) (ra_cons (re_var 11) ra_nil))))) rs_nil)))))))
    (rs_one (rs_ret (re_ifE (rt_cmp (op_eq_any hr) (re_cb cb_lenN rfl b_len (by rfl) (ra_cons (re_var 8) ra_nil)) (re_cb cb_lenN rfl b_len (by rfl) (ra_cons (re_var 4) ra_nil)) (by rfl)) (re_var 8) re_non))))))))))
theorem sc_check_table : FnScope N_check_table (N_check_table.take 2) (defScope st_check_table) := ⟨rfl, rfl, rfl, by decide +kernel, rfl, by decide +kernel, by decide +kernel⟩
theorem ok_check_table {w : World} {K : PySem.W.Frag} {mg : Str → Option Value} {base : Heap} (W : Wd facts defs gets errs K mg base) {fd : FuncData} (F : FunD K "check_table" "check_table" (defArgs st_check_table) (defBody st_check_table) (defScope st_check_table) [] [] (He.fAd K d_check_table.at_) fd) :
    FnG prg w K mg base CX0 1 (He.fAd K d_check_table.at_) fd (N_check_table.take 2) (spOf K ⟨mg, w⟩ 2 fn_check_table) := by
  have g_System := W.glo 23 (x := "System") rfl
  have c_System := W.cls 24 (x := "System") rfl
  have n_System_kept_tables := W.noat 27 (x := "System") (f := "kept_tables") rfl
  refine fn_ok0 (ms := ms_check_table) F sc_check_table fun cdv A outer s H E hr => ?_
  unfold ms_check_table
  exact (rs_one (rs_if (rt_cmp (op_notin_any hr) (re_var 1) (re_fld g_System c_System n_System_kept_tables (re_var 0)) (by rfl)) (rs_one rs_never) rs_nil))
theorem sc_check_cell : FnScope N_check_cell (N_check_cell.take 2) (defScope st_check_cell) := ⟨rfl, rfl, rfl, by decide +kernel, rfl, by decide +kernel, by decide +kernel⟩
theorem ok_check_cell {w : World} {K : PySem.W.Frag} {mg : Str → Option Value} {base : Heap} (W : Wd facts defs gets errs K mg base) {fd : FuncData} (F : FunD K "check_cell" "check_cell" (defArgs st_check_cell) (defBody st_check_cell) (defScope st_check_cell) [] [] (He.fAd K d_check_cell.at_) fd) :
    FnG prg w K mg base CX0 2 (He.fAd K d_check_cell.at_) fd (N_check_cell.take 2) (spOf K ⟨mg, w⟩ 2 fn_check_cell) := by
  obtain ⟨fd_check_table, F_check_table⟩ := W.c.def_ 18 (d := d_check_table) rfl
  have G_check_table := ok_check_table (w := w) W F_check_table
  have g_check_table := W.glo 39 (x := "check_table") rfl
  have B_check_table := FunD.bindsN (ps := N_check_table.take 2) F_check_table (fun _ _ _ _ _ _ us hl => match us, hl with | [_, _], _ => rfl)
  have b_len := W.free 4 (x := "len") rfl
  have g_System := W.glo 23 (x := "System") rfl
  have c_System := W.cls 24 (x := "System") rfl
  have n_System_dimension_count := W.noat 25 (x := "System") (f := "dimension_count") rfl
  have b_min := W.free 5 (x := "min") rfl
  refine fn_ok0 (ms := ms_check_cell) F sc_check_cell fun cdv A outer s H E hr => ?_
  unfold ms_check_cell
  exact (rs_cons (rs_asg (re_var 1) (rg_tp rfl (rgs_cons (rg_nm sc_check_cell.nd) (rgs_cons (rg_nm sc_check_cell.nd) rgs_nil))))
    (rs_cons (rs_expr (re_fz 9 (re_call G_check_table (hr.mono (by decide)) rfl g_check_table F_check_table.kp B_check_table .nil (fun _ _ _ => rfl) pass_any (ra_cons (re_var 0) (ra_cons (re_var 2) ra_nil)))))
    (rs_one (rs_if (PW.pt (rw_or (rt_cmp (op_ne_any hr) (re_cb cb_len rfl b_len (by rfl) (ra_cons (re_var 3) ra_nil)) (re_fld g_System c_System n_System_dimension_count (re_var 0)) (by rfl)) (rw_or1 (rt_cmp op_lt_int (re_cb (cb_min rfl hr) rfl b_min (by rfl) (ra_cons (re_var 3) ra_nil)) re_int (by rfl))))) (rs_one rs_never) rs_nil))))
theorem sc_is_below : FnScope N_is_below (N_is_below.take 2) (defScope st_is_below) := ⟨rfl, rfl, rfl, by decide +kernel, rfl, by decide +kernel, by decide +kernel⟩
theorem ok_is_below {w : World} {K : PySem.W.Frag} {mg : Str → Option Value} {base : Heap} (W : Wd facts defs gets errs K mg base) {fd : FuncData} (F : FunD K "is_below" "is_below" (defArgs st_is_below) (defBody st_is_below) (defScope st_is_below) [] [] (He.fAd K d_is_below.at_) fd) :
    FnG prg w K mg base CX0 1 (He.fAd K d_is_below.at_) fd (N_is_below.take 2) (spOf K ⟨mg, w⟩ 2 fn_is_below) := by
  have b_zip := W.free 33 (x := "zip") rfl
  have b_all := W.free 18 (x := "all") rfl
  refine fn_ok0 (ms := ms_is_below) F sc_is_below fun cdv A outer s H E hr => ?_
  unfold ms_is_below
  exact (rs_one (rs_ret (re_cb (cb_all rfl) rfl b_all (by rfl) (ra_cons (re_comp (own := [("one", 2), ("two", 3)]) rfl sc_is_below.nd (ri_zip rfl b_zip (ra_cons (re_var 0) (ra_cons (re_var 1) ra_nil))) (blkOk_by (own := [("one", 2), ("two", 3)]) (by kernel_rfl)) (fun _ _ _ _ _ => (rg_tp rfl (rgs_cons (rg_nm sc_is_below.nd) (rgs_cons (rg_nm sc_is_below.nd) rgs_nil)))) (fun _ _ _ _ _ => rts_nil) (fun _ _ _ _ _ => (re_cmp op_le_int (re_var 2) (re_var 3) (by rfl)))) ra_nil))))
theorem sc_earlier_in : FnScope N_earlier_in (N_earlier_in.take 3) (defScope st_earlier_in) := ⟨rfl, rfl, rfl, by decide +kernel, rfl, by decide +kernel, by decide +kernel⟩
theorem ok_earlier_in {w : World} {K : PySem.W.Frag} {mg : Str → Option Value} {base : Heap} (W : Wd facts defs gets errs K mg base) {fd : FuncData} (F : FunD K "earlier_in" "earlier_in" (defArgs st_earlier_in) (defBody st_earlier_in) (defScope st_earlier_in) [] [] (He.fAd K d_earlier_in.at_) fd) :
    FnG prg w K mg base CX0 2 (He.fAd K d_earlier_in.at_) fd (N_earlier_in.take 3) (spOf K ⟨mg, w⟩ 3 fn_earlier_in) := by
  have b_enumerate := W.free 15 (x := "enumerate") rfl
  obtain ⟨fd_is_below, F_is_below⟩ := W.c.def_ 22 (d := d_is_below) rfl
  have G_is_below := ok_is_below (w := w) W F_is_below
  have g_is_below := W.glo 41 (x := "is_below") rfl
  have B_is_below := FunD.bindsN (ps := N_is_below.take 2) F_is_below (fun _ _ _ _ _ _ us hl => match us, hl with | [_, _], _ => rfl)
  refine fn_ok0 (ms := ms_earlier_in) F sc_earlier_in fun cdv A outer s H E hr => ?_
  unfold ms_earlier_in
  exact (rs_cons (rs_for PassesOwn.never rfl (ri_enum rfl b_enumerate (ra_cons (re_var 0) ra_nil)) (rg_tp rfl (rgs_cons (rg_nm sc_earlier_in.nd) (rgs_cons (rg_tp rfl (rgs_cons (rg_nm sc_earlier_in.nd) (rgs_cons (rg_nm sc_earlier_in.nd) rgs_nil))) rgs_nil))) (rs_one (rs_if (PW.pt (rw_and (rt_cmp (op_eq_any hr) (re_var 4) (re_var 1) (by rfl)) (rw_and1 (rt_tru (re_fz 9 (re_call G_is_below (hr.mono (by decide)) rfl g_is_below F_is_below.kp B_is_below .nil (fun _ _ _ => rfl) pass_any (ra_cons (re_var 5) (ra_cons (re_var 2) ra_nil)))))))) (rs_one (rs_ret (re_var 3))) rs_nil)))
    (rs_one (rs_ret re_non)))
theorem sc_cells_from : FnScope N_cells_from (N_cells_from.take 3) (defScope st_cells_from) := ⟨rfl, rfl, rfl, by decide +kernel, rfl, by decide +kernel, by decide +kernel⟩
theorem ok_cells_from {w : World} {K : PySem.W.Frag} {mg : Str → Option Value} {base : Heap} (W : Wd facts defs gets errs K mg base) {fd : FuncData} (F : FunD K "cells_from" "cells_from" (defArgs st_cells_from) (defBody st_cells_from) (defScope st_cells_from) [] [] (He.fAd K d_cells_from.at_) fd) :
    FnG prg w K mg base CX0 1 (He.fAd K d_cells_from.at_) fd (N_cells_from.take 3) (spOf K ⟨mg, w⟩ 3 fn_cells_from) := by
  have g_System := W.glo 23 (x := "System") rfl
  have c_System := W.cls 24 (x := "System") rfl
  have n_System_kept_tables := W.noat 27 (x := "System") (f := "kept_tables") rfl
  have b_zip := W.free 33 (x := "zip") rfl
  have b_tuple := W.free 9 (x := "tuple") rfl
  have b_min := W.free 5 (x := "min") rfl
  refine fn_ok0 (ms := ms_cells_from) F sc_cells_from fun cdv A outer s H E hr => ?_
  unfold ms_cells_from
  exact (rs_cons (rs_set (i := 3) sc_cells_from.nd (re_lstR ra_nil))
    (rs_cons (rs_for PassesOwn.never rfl (ri_any (re_sub (ix_any hr) (re_sub (ix_any hr) (re_fld g_System c_System n_System_kept_tables (re_var 0)) (re_var 1) (fun _ _ => rfl)) re_int (fun _ _ => rfl))) (rg_tp rfl (rgs_cons (rg_nm sc_cells_from.nd) (rgs_cons (rg_nm sc_cells_from.nd) (rgs_cons (rg_nm sc_cells_from.nd) rgs_nil)))) (rs_cons (rs_set (i := 7) sc_cells_from.nd (re_cty cb_tuple rfl b_tuple (by rfl) (ra_cons (re_comp (own := [("place", 8), ("step", 9)]) rfl sc_cells_from.nd (ri_zip rfl b_zip (ra_cons (re_var 2) (ra_cons (re_var 5) ra_nil))) (blkOk_by (own := [("place", 8), ("step", 9)]) (by kernel_rfl)) (fun _ _ _ _ _ => (rg_tp rfl (rgs_cons (rg_nm sc_cells_from.nd) (rgs_cons (rg_nm sc_cells_from.nd) rgs_nil)))) (fun _ _ _ _ _ => rts_nil) (fun _ _ _ _ _ => (re_op op_sub_int (re_var 8) (re_var 9)))) ra_nil)))
    (rs_one (rs_if (rt_cmp op_ge_int (re_cb (cb_min rfl hr) rfl b_min (by rfl) (ra_cons (re_var 7) ra_nil)) re_int (by rfl)) (rs_one (rs_expr (re_bm PySem.F.plainAttrs_list PySem.F.slot_list_append PySem.F.type_list_append mt_append_e isLst_ty (re_var 3) (ra_cons (re_tup (ra_cons (re_var 4) (ra_cons (re_var 7) ra_nil))) ra_nil)))) rs_nil))))
    (rs_one (rs_ret (re_var 3)))))
theorem sc_search : FnScope N_search (N_search.take 3) (defScope st_search) := ⟨rfl, rfl, rfl, by decide +kernel, rfl, by decide +kernel, by decide +kernel⟩
theorem ok_search {w : World} {K : PySem.W.Frag} {mg : Str → Option Value} {base : Heap} (W : Wd facts defs gets errs K mg base) {fd : FuncData} (F : FunD K "search" "search" (defArgs st_search) (defBody st_search) (defScope st_search) [] [] (He.fAd K d_search.at_) fd) :
    FnG prg w K mg base CX0 3 (He.fAd K d_search.at_) fd (N_search.take 3) (spOf K ⟨mg, w⟩ 3 fn_search) := by
  obtain ⟨fd_earlier_in, F_earlier_in⟩ := W.c.def_ 21 (d := d_earlier_in) rfl
  have G_earlier_in := ok_earlier_in (w := w) W F_earlier_in
  have g_earlier_in := W.glo 42 (x := "earlier_in") rfl
  have B_earlier_in := FunD.bindsN (ps := N_earlier_in.take 3) F_earlier_in (fun _ _ _ _ _ _ us hl => match us, hl with | [_, _, _], _ => rfl)
  obtain ⟨fd_cells_from, F_cells_from⟩ := W.c.def_ 23 (d := d_cells_from) rfl
  have G_cells_from := ok_cells_from (w := w) W F_cells_from
  have g_cells_from := W.glo 43 (x := "cells_from") rfl
  have B_cells_from := FunD.bindsN (ps := N_cells_from.take 3) F_cells_from (fun _ _ _ _ _ _ us hl => match us, hl with | [_, _, _], _ => rfl)
  refine fn_ok0 (ms := ms_search) F sc_search fun cdv A outer s H E hr => ?_
  unfold ms_search
  exact (rs_cons (rs_par (i := 3) (j := 4) rfl sc_search.nd (ra_cons (re_lstR ra_nil) (ra_cons (re_lstR ra_nil) ra_nil)))
    (rs_cons (rs_set (i := 5) sc_search.nd (re_lstR (ra_cons (re_var 1) ra_nil)))
    (rs_cons (rs_while PassesOwn.never (PW.pt (rw_or (rt_cmp (op_ne_any hr) (re_var 5) (re_lst ra_nil) (by rfl)) (rw_or1 (rt_cmp (op_ne_any hr) (re_var 3) (re_lst ra_nil) (by rfl))))) (rs_one (rs_if (rt_cmp (op_eq_any hr) (re_var 5) (re_lst ra_nil) (by rfl)) (rs_cons (rs_dputN hr (re_var 2) (re_bm0 PySem.F.plainAttrs_list PySem.F.slot_list_pop PySem.F.type_list_pop mt_pop_e isLst_ty (re_var 3)) re_bl)
    (rs_one (rs_set (i := 5) sc_search.nd (re_bm0 PySem.F.plainAttrs_list PySem.F.slot_list_pop PySem.F.type_list_pop mt_pop_e isLst_ty (re_var 4))))) (rs_cons (rs_set (i := 6) sc_search.nd (re_bm0 PySem.F.plainAttrs_list PySem.F.slot_list_pop PySem.F.type_list_pop mt_pop_e isLst_ty (re_var 5)))
    (rs_cons (rs_set (i := 7) sc_search.nd (re_ifE (rt_cmp (op_inN hr) (re_var 6) (re_var 2) (by rfl)) re_non (re_fz 9 (re_call G_earlier_in (hr.mono (by decide)) rfl g_earlier_in F_earlier_in.kp B_earlier_in .nil (fun _ _ _ => rfl) pass_any (ra_cons (re_var 3) (ra_cons (re_sub (ix_any hr) (re_var 6) re_int (fun _ _ => rfl)) (ra_cons (re_sub (ix_any hr) (re_var 6) re_int (fun _ _ => rfl)) ra_nil)))))))
    (rs_cons (rs_if (rt_cmp op_isnot_n (re_var 7) re_non (by rfl)) (rs_one (rs_ret (re_tup (ra_cons (re_lst (ra_star (re_var 3) (ra_cons (re_var 6) ra_nil))) (ra_cons (re_var 7) ra_nil))))) rs_nil)
    (rs_one (rs_if (rt_cmp (op_notinN hr) (re_var 6) (re_var 2) (by rfl)) (rs_cons (rs_expr (re_bm PySem.F.plainAttrs_list PySem.F.slot_list_append PySem.F.type_list_append mt_append_e isLst_ty (re_var 3) (ra_cons (re_var 6) ra_nil)))
    (rs_cons (rs_expr (re_bm PySem.F.plainAttrs_list PySem.F.slot_list_append PySem.F.type_list_append mt_append_e isLst_ty (re_var 4) (ra_cons (re_var 5) ra_nil)))
    (rs_one (rs_set (i := 5) sc_search.nd (re_call G_cells_from (hr.mono (by decide)) rfl g_cells_from F_cells_from.kp B_cells_from .nil (fun _ _ _ => rfl) pass_any (ra_cons (re_var 0) (ra_cons (re_sub (ix_any hr) (re_var 6) re_int (fun _ _ => rfl)) (ra_cons (re_sub (ix_any hr) (re_var 6) re_int (fun _ _ => rfl)) ra_nil)))))))) rs_nil))))))))
    (rs_one (rs_ret re_non)))))
theorem sc_ready_in : FnScope N_ready_in (N_ready_in.take 2) (defScope st_ready_in) := ⟨rfl, rfl, rfl, by decide +kernel, rfl, by decide +kernel, by decide +kernel⟩
theorem ok_ready_in {w : World} {K : PySem.W.Frag} {mg : Str → Option Value} {base : Heap} (W : Wd facts defs gets errs K mg base) {fd : FuncData} (F : FunD K "ready_in" "ready_in" (defArgs st_ready_in) (defBody st_ready_in) (defScope st_ready_in) [] [] (He.fAd K d_ready_in.at_) fd) :
    FnG prg w K mg base CX0 4 (He.fAd K d_ready_in.at_) fd (N_ready_in.take 2) (spOf K ⟨mg, w⟩ 2 fn_ready_in) := by
  obtain ⟨fd_search, F_search⟩ := W.c.def_ 20 (d := d_search) rfl
  have G_search := ok_search (w := w) W F_search
  have g_search := W.glo 44 (x := "search") rfl
  have B_search := FunD.bindsN (ps := N_search.take 3) F_search (fun _ _ _ _ _ _ us hl => match us, hl with | [_, _, _], _ => rfl)
  refine fn_ok0 (ms := ms_ready_in) F sc_ready_in fun cdv A outer s H E hr => ?_
  unfold ms_ready_in
  exact (rs_one (rs_ret (re_cmp op_is_n (re_fz 9 (re_call G_search (hr.mono (by decide)) rfl g_search F_search.kp B_search .nil (fun _ _ _ => rfl) pass_any (ra_cons (re_var 0) (ra_cons (re_var 1) (ra_cons re_dnewN ra_nil))))) re_non (by rfl))))
theorem sc_check_ready : FnScope N_check_ready (N_check_ready.take 2) (defScope st_check_ready) := ⟨rfl, rfl, rfl, by decide +kernel, rfl, by decide +kernel, by decide +kernel⟩
theorem ok_check_ready {w : World} {K : PySem.W.Frag} {mg : Str → Option Value} {base : Heap} (W : Wd facts defs gets errs K mg base) {fd : FuncData} (F : FunD K "check_ready" "check_ready" (defArgs st_check_ready) (defBody st_check_ready) (defScope st_check_ready) [] [] (He.fAd K d_check_ready.at_) fd) :
    FnG prg w K mg base CX0 5 (He.fAd K d_check_ready.at_) fd (N_check_ready.take 2) (spOf K ⟨mg, w⟩ 2 fn_check_ready) := by
  obtain ⟨fd_check_cell, F_check_cell⟩ := W.c.def_ 17 (d := d_check_cell) rfl
  have G_check_cell := ok_check_cell (w := w) W F_check_cell
  have g_check_cell := W.glo 40 (x := "check_cell") rfl
  have B_check_cell := FunD.bindsN (ps := N_check_cell.take 2) F_check_cell (fun _ _ _ _ _ _ us hl => match us, hl with | [_, _], _ => rfl)
  obtain ⟨fd_ready_in, F_ready_in⟩ := W.c.def_ 19 (d := d_ready_in) rfl
  have G_ready_in := ok_ready_in (w := w) W F_ready_in
  have g_ready_in := W.glo 45 (x := "ready_in") rfl
  have B_ready_in := FunD.bindsN (ps := N_ready_in.take 2) F_ready_in (fun _ _ _ _ _ _ us hl => match us, hl with | [_, _], _ => rfl)
  refine fn_ok0 (ms := ms_check_ready) F sc_check_ready fun cdv A outer s H E hr => ?_
  unfold ms_check_ready
  exact (rs_cons (rs_expr (re_fz 9 (re_call G_check_cell (hr.mono (by decide)) rfl g_check_cell F_check_cell.kp B_check_cell .nil (fun _ _ _ => rfl) pass_any (ra_cons (re_var 0) (ra_cons (re_var 1) ra_nil)))))
    (rs_one (rs_if (rt_not (rt_tru (re_fz 9 (re_call G_ready_in (hr.mono (by decide)) rfl g_ready_in F_ready_in.kp B_ready_in .nil (fun _ _ _ => rfl) pass_any (ra_cons (re_var 0) (ra_cons (re_var 1) ra_nil)))))) (rs_one rs_never) rs_nil)))
theorem sc_lengths_from : FnScope N_lengths_from (N_lengths_from.take 2) (defScope st_lengths_from) := ⟨rfl, rfl, rfl, by decide +kernel, rfl, by decide +kernel, by decide +kernel⟩
theorem ok_lengths_from {w : World} {K : PySem.W.Frag} {mg : Str → Option Value} {base : Heap} (W : Wd facts defs gets errs K mg base) {fd : FuncData} (F : FunD K "lengths_from" "lengths_from" (defArgs st_lengths_from) (defBody st_lengths_from) (defScope st_lengths_from) [] [] (He.fAd K d_lengths_from.at_) fd) :
    FnG prg w K mg base CX0 2 (He.fAd K d_lengths_from.at_) fd (N_lengths_from.take 2) (spOf K ⟨mg, w⟩ 2 fn_lengths_from) := by
  obtain ⟨fd_cells_from, F_cells_from⟩ := W.c.def_ 23 (d := d_cells_from) rfl
  have G_cells_from := ok_cells_from (w := w) W F_cells_from
  have g_cells_from := W.glo 43 (x := "cells_from") rfl
  have B_cells_from := FunD.bindsN (ps := N_cells_from.take 3) F_cells_from (fun _ _ _ _ _ _ us hl => match us, hl with | [_, _, _], _ => rfl)
  have b_max := W.free 37 (x := "max") rfl
  refine fn_ok0 (ms := ms_lengths_from) F sc_lengths_from fun cdv A outer s H E hr => ?_
  unfold ms_lengths_from
  exact (rs_cons (rs_asg (re_tup (ra_cons re_dnewN (ra_cons (re_lstR (ra_cons (re_var 1) ra_nil)) ra_nil))) (rg_tp rfl (rgs_cons (rg_nm sc_lengths_from.nd) (rgs_cons (rg_nm sc_lengths_from.nd) rgs_nil))))
    (rs_cons (rs_while PassesOwn.never (rt_cmp (op_ne_any hr) (re_var 3) (re_lst ra_nil) (by rfl)) (rs_cons (rs_set (i := 4) sc_lengths_from.nd (re_sub (ix_any hr) (re_var 3) (re_un un_neg_int re_int) (fun _ _ => rfl)))
    (rs_cons (rs_set (i := 5) sc_lengths_from.nd (re_fz 9 (re_call G_cells_from (hr.mono (by decide)) rfl g_cells_from F_cells_from.kp B_cells_from .nil (fun _ _ _ => rfl) pass_any (ra_cons (re_var 0) (ra_cons (re_sub (ix_any hr) (re_var 4) re_int (fun _ _ => rfl)) (ra_cons (re_sub (ix_any hr) (re_var 4) re_int (fun _ _ => rfl)) ra_nil))))))
    (rs_cons (rs_setComp (own := [("other", 7)]) rfl sc_lengths_from.nd (sw_true rfl rfl rfl rfl) (ri_any (re_var 5)) (blkOk_by (own := [("other", 7)]) (by kernel_rfl)) (fun _ _ _ _ _ => (rg_nm sc_lengths_from.nd)) (fun _ _ _ _ _ => (rts_one (rt_cmp (op_notinN hr) (re_var 7) (re_var 2) (by rfl)))) (fun _ _ _ _ _ => (re_var 7)))
    (rs_one (rs_if (rt_cmp (op_ne_any hr) (re_var 6) (re_lst ra_nil) (by rfl)) (rs_one (rs_expr (re_bm PySem.F.plainAttrs_list PySem.F.slot_list_extend PySem.F.type_list_extend mt_extend_e isLst_ty (re_var 3) (ra_cons (re_var 6) ra_nil)))) (rs_cons (rs_expr (re_bm0 PySem.F.plainAttrs_list PySem.F.slot_list_pop PySem.F.type_list_pop mt_pop_e isLst_ty (re_var 3)))
    (rs_one (rs_dputN hr (re_var 2) (re_var 4) (re_cb (cb_max rfl hr) rfl b_max (by rfl) (ra_cons (re_op op_add_any (re_comp (own := [("other", 7)]) rfl sc_lengths_from.nd (ri_any (re_var 5)) (blkOk_by (own := [("other", 7)]) (by kernel_rfl)) (fun _ _ _ _ _ => (rg_nm sc_lengths_from.nd)) (fun _ _ _ _ _ => rts_nil) (fun _ _ _ _ _ => (re_op op_add_any (re_sub (ix_N hr) (re_var 2) (re_var 7) (fun _ _ => rfl)) re_int))) (re_lst (ra_cons re_int ra_nil))) ra_nil)))))))))))
    (rs_one (rs_ret (re_var 2)))))
theorem sc_needed : FnScope N_needed (N_needed.take 2) (defScope st_needed) := ⟨rfl, rfl, rfl, by decide +kernel, rfl, by decide +kernel, by decide +kernel⟩
theorem ok_needed {w : World} {K : PySem.W.Frag} {mg : Str → Option Value} {base : Heap} (W : Wd facts defs gets errs K mg base) {fd : FuncData} (F : FunD K "needed" "needed" (defArgs st_needed) (defBody st_needed) (defScope st_needed) [] [] (He.fAd K d_needed.at_) fd) :
    FnG prg w K mg base CX0 6 (He.fAd K d_needed.at_) fd (N_needed.take 2) (spOf K ⟨mg, w⟩ 2 fn_needed) := by
  obtain ⟨fd_check_ready, F_check_ready⟩ := W.c.def_ 16 (d := d_check_ready) rfl
  have G_check_ready := ok_check_ready (w := w) W F_check_ready
  have g_check_ready := W.glo 46 (x := "check_ready") rfl
  have B_check_ready := FunD.bindsN (ps := N_check_ready.take 2) F_check_ready (fun _ _ _ _ _ _ us hl => match us, hl with | [_, _], _ => rfl)
  obtain ⟨fd_lengths_from, F_lengths_from⟩ := W.c.def_ 24 (d := d_lengths_from) rfl
  have G_lengths_from := ok_lengths_from (w := w) W F_lengths_from
  have g_lengths_from := W.glo 47 (x := "lengths_from") rfl
  have B_lengths_from := FunD.bindsN (ps := N_lengths_from.take 2) F_lengths_from (fun _ _ _ _ _ _ us hl => match us, hl with | [_, _], _ => rfl)
  have b_sorted := W.free 28 (x := "sorted") rfl
  refine fn_ok0L (ms := ms_needed) (at_ := d_needed.at_) F sc_needed fun A outer s H E hr => ?_
  unfold ms_needed
  exact (rs_cons (rs_expr (re_fz 9 (re_call G_check_ready (hr.mono (by decide)) rfl g_check_ready F_check_ready.kp B_check_ready .nil (fun _ _ _ => rfl) pass_any (ra_cons (re_var 0) (ra_cons (re_var 1) ra_nil)))))
    (rs_cons (rs_set (i := 2) sc_needed.nd (re_call G_lengths_from (hr.mono (by decide)) rfl g_lengths_from F_lengths_from.kp B_lengths_from .nil (fun _ _ _ => rfl) pass_any (ra_cons (re_var 0) (ra_cons (re_var 1) ra_nil))))
    (rs_one (rs_ret (re_sortLR (i := 2) rfl b_sorted (re_var 2) hr rfl (W.tb ("needed", none) (List.mem_of_getElem? (i := 1) (by rfl))) rfl (List.mem_of_getElem? (i := 1) (by rfl)) (tab_uniq W (i := 1) (by rfl)) rfl (by intro y hy; exact (by decide +kernel : ∀ y ∈ [(("other" : Str), NameKind.local), (("lengths" : Str), NameKind.free)], y.2 = NameKind.free → y.1 = ("lengths" : Str)) y hy) rfl rfl rfl rfl rfl rfl (by intro y hy; exact (by decide +kernel : ∀ y ∈ [(("other" : Str), NameKind.local), (("lengths" : Str), NameKind.free)], y.2 ≠ NameKind.cell) y hy) rfl (by decide) (by decide) (by decide) (fun _ _ _ _ _ _ => rfl))))))
theorem sc__law_ring : FnScope N__law_ring (N__law_ring.take 1) (defScope st__law_ring) := ⟨rfl, rfl, rfl, by decide +kernel, rfl, by decide +kernel, by decide +kernel⟩
theorem ok__law_ring {w : World} {K : PySem.W.Frag} {mg : Str → Option Value} {base : Heap} (W : Wd facts defs gets errs K mg base) {fd : FuncData} (F : FunD K "_law_ring" "_law_ring" (defArgs st__law_ring) (defBody st__law_ring) (defScope st__law_ring) [] [] (He.fAd K d__law_ring.at_) fd) :
    FnG prg w K mg base CX0 3 (He.fAd K d__law_ring.at_) fd (N__law_ring.take 1) (spOf K ⟨mg, w⟩ 1 fn__law_ring) := by
  obtain ⟨fd__law_mixed, F__law_mixed⟩ := W.c.def_ 5 (d := d__law_mixed) rfl
  have G__law_mixed := ok__law_mixed (w := w) W F__law_mixed
  have g__law_mixed := W.glo 8 (x := "_law_mixed") rfl
  have B__law_mixed := FunD.bindsN (ps := N__law_mixed.take 2) F__law_mixed (fun _ _ _ _ _ _ us hl => match us, hl with | [_, _], _ => rfl)
  obtain ⟨fd__law_draw, F__law_draw⟩ := W.c.def_ 3 (d := d__law_draw) rfl
  have G__law_draw := ok__law_draw (w := w) W F__law_draw
  have g__law_draw := W.glo 6 (x := "_law_draw") rfl
  have B__law_draw := FunD.bindsN (ps := N__law_draw.take 2) F__law_draw (fun _ _ _ _ _ _ us hl => match us, hl with | [_, _], _ => rfl)
  have b_enumerate := W.free 15 (x := "enumerate") rfl
  have b_int := W.free 1 (x := "int") rfl
  have b_range := W.free 3 (x := "range") rfl
  have b_len := W.free 4 (x := "len") rfl
  refine fn_ok0 (ms := ms__law_ring) F sc__law_ring fun cdv A outer s H E hr => ?_
  unfold ms__law_ring
  exact (rs_cons (rs_set (i := 1) sc__law_ring.nd (re_slice sl_any (re_fz 9 (re_call G__law_mixed (hr.mono (by decide)) rfl g__law_mixed F__law_mixed.kp B__law_mixed .nil (fun _ _ _ => rfl) pass_any (ra_cons (re_var 0) (ra_cons (re_lst (ra_cons re_str (ra_cons re_str (ra_cons re_str (ra_cons re_str (ra_cons re_str (ra_cons re_str ra_nil))))))) ra_nil)))) ro_no (ro_some (re_op op_add_any re_int (re_fz 9 (re_call G__law_draw (hr.mono (by decide)) rfl g__law_draw F__law_draw.kp B__law_draw .nil (fun _ _ _ => rfl) pass_any (ra_cons (re_var 0) (ra_cons re_int ra_nil))))))))
    (rs_cons (rs_par (i := 2) (j := 3) rfl sc__law_ring.nd (ra_cons (re_op op_add_any re_int (re_fz 9 (re_call G__law_draw (hr.mono (by decide)) rfl g__law_draw F__law_draw.kp B__law_draw .nil (fun _ _ _ => rfl) pass_any (ra_cons (re_var 0) (ra_cons re_int ra_nil))))) (ra_cons (re_lstR ra_nil) ra_nil)))
    (rs_cons (rs_for PassesOwn.never rfl (ri_enum rfl b_enumerate (ra_cons (re_var 1) ra_nil)) (rg_tp rfl (rgs_cons (rg_nm sc__law_ring.nd) (rgs_cons (rg_nm sc__law_ring.nd) rgs_nil))) (rs_cons (rs_set (i := 7) sc__law_ring.nd (re_tup (ra_cons (re_op op_mul_any (re_var 2) (re_cty cb_int rfl b_int (by rfl) (ra_cons (re_cmp (op_eq_any hr) (re_var 4) re_int (by rfl)) ra_nil))) ra_nil)))
    (rs_one (rs_expr (re_bm PySem.F.plainAttrs_list PySem.F.slot_list_append PySem.F.type_list_append mt_append_e isLst_ty (re_var 3) (ra_cons (re_tup (ra_cons (re_var 5) (ra_cons (re_fz 9 (re_call G__law_draw (hr.mono (by decide)) rfl g__law_draw F__law_draw.kp B__law_draw .nil (fun _ _ _ => rfl) pass_any (ra_cons (re_var 0) (ra_cons re_int ra_nil)))) (ra_cons (re_lstR (ra_cons (re_tup (ra_cons (re_sub (ix_any hr) (re_var 1) (re_op op_sub_int (re_var 4) re_int) (fun _ _ => rfl)) (ra_cons (re_var 7) (ra_cons (re_op op_add_any re_int (re_fz 9 (re_call G__law_draw (hr.mono (by decide)) rfl g__law_draw F__law_draw.kp B__law_draw .nil (fun _ _ _ => rfl) pass_any (ra_cons (re_var 0) (ra_cons re_int ra_nil))))) ra_nil)))) ra_nil)) ra_nil)))) ra_nil))))))
    (rs_cons (rs_for PassesOwn.never rfl (ri_range1 rfl b_range (ra_cons (re_fz 9 (re_call G__law_draw (hr.mono (by decide)) rfl g__law_draw F__law_draw.kp B__law_draw .nil (fun _ _ _ => rfl) pass_any (ra_cons (re_var 0) (ra_cons re_int ra_nil)))) ra_nil)) (rg_nm sc__law_ring.nd) (rs_cons (rs_asg (re_sub (ix_any hr) (re_var 3) (re_fz 9 (re_call G__law_draw (hr.mono (by decide)) rfl g__law_draw F__law_draw.kp B__law_draw .nil (fun _ _ _ => rfl) pass_any (ra_cons (re_var 0) (ra_cons (re_cb cb_len rfl b_len (by rfl) (ra_cons (re_var 3) ra_nil)) ra_nil)))) (fun _ _ => rfl)) (rg_tp rfl (rgs_cons (rg_nm sc__law_ring.nd) (rgs_cons (rg_nm sc__law_ring.nd) (rgs_cons (rg_nm sc__law_ring.nd) rgs_nil)))))
    (rs_one (rs_expr (re_bm PySem.F.plainAttrs_list PySem.F.slot_list_append PySem.F.type_list_append mt_append_e isLst_ty (re_var 9) (ra_cons (re_tup (ra_cons (re_sub (ix_any hr) (re_var 1) (re_fz 9 (re_call G__law_draw (hr.mono (by decide)) rfl g__law_draw F__law_draw.kp B__law_draw .nil (fun _ _ _ => rfl) pass_any (ra_cons (re_var 0) (ra_cons (re_cb cb_len rfl b_len (by rfl) (ra_cons (re_var 1) ra_nil)) ra_nil)))) (fun _ _ => rfl)) (ra_cons (re_tup (ra_cons (re_op op_add_any re_int (re_fz 9 (re_call G__law_draw (hr.mono (by decide)) rfl g__law_draw F__law_draw.kp B__law_draw .nil (fun _ _ _ => rfl) pass_any (ra_cons (re_var 0) (ra_cons re_int ra_nil))))) ra_nil)) (ra_cons re_int ra_nil)))) ra_nil))))))
    (rs_fzI (i := 3) (n := 9) (rs_fzV (i := 3) (rs_one (rs_ret (re_fz 9 (re_call G__law_mixed (hr.mono (by decide)) rfl g__law_mixed F__law_mixed.kp B__law_mixed .nil (fun _ _ _ => rfl) pass_any (ra_cons (re_var 0) (ra_cons (re_var 3) ra_nil))))))))))))
theorem sc_law : FnScope N_law (N_law.take 1) (defScope st_law) := ⟨rfl, rfl, rfl, by decide +kernel, rfl, by decide +kernel, by decide +kernel⟩
theorem ok_law {w : World} {K : PySem.W.Frag} {mg : Str → Option Value} {base : Heap} (W : Wd facts defs gets errs K mg base) {fd : FuncData} (F : FunD K "law" "law" (defArgs st_law) (defBody st_law) (defScope st_law) [] [] (He.fAd K d_law.at_) fd) :
    FnG prg w K mg base CX0 7 (He.fAd K d_law.at_) fd (N_law.take 1) (spOf K ⟨mg, w⟩ 1 fn_law) := by
  obtain ⟨fd__law_rng, F__law_rng⟩ := W.c.def_ 1 (d := d__law_rng) rfl
  have G__law_rng := ok__law_rng (w := w) W F__law_rng
  have g__law_rng := W.glo 2 (x := "_law_rng") rfl
  have B__law_rng := FunD.bindsN (ps := N__law_rng.take 1) F__law_rng (fun _ _ _ _ _ _ us hl => match us, hl with | [_], _ => rfl)
  have b_range := W.free 3 (x := "range") rfl
  have b_len := W.free 4 (x := "len") rfl
  have b_min := W.free 5 (x := "min") rfl
  obtain ⟨fd__law_small, F__law_small⟩ := W.c.def_ 2 (d := d__law_small) rfl
  have G__law_small := ok__law_small (w := w) W F__law_small
  have g__law_small := W.glo 12 (x := "_law_small") rfl
  have B__law_small := FunD.bindsN (ps := N__law_small.take 1) F__law_small (fun _ _ _ _ _ _ us hl => match us, hl with | [_], _ => rfl)
  obtain ⟨fd_System_init, F_System_init⟩ := W.c.def_ 7 (d := d_System_init) rfl
  have G_System_init := ok_System_init (w := w) W F_System_init
  have g_System := W.glo 23 (x := "System") rfl
  have mk_System := W.mkr 30 (x := "System") rfl
  obtain ⟨ds_B_System_init_3, dr_B_System_init_3, B_System_init_3⟩ := FunD.binds1 (ps := N_System_init.take 4) F_System_init 3 0 (by simp [d_System_init, He.DefD.dvs]) rfl (fun _ _ _ _ _ _ _ us its h1 h2 => match us, its, h1, h2 with | [_, _, _], [_], _, _ => ⟨_, rfl, rfl⟩)
  obtain ⟨fd__law_point, F__law_point⟩ := W.c.def_ 11 (d := d__law_point) rfl
  have G__law_point := ok__law_point (w := w) W F__law_point
  have g__law_point := W.glo 31 (x := "_law_point") rfl
  have B__law_point := FunD.bindsN (ps := N__law_point.take 2) F__law_point (fun _ _ _ _ _ _ us hl => match us, hl with | [_, _], _ => rfl)
  obtain ⟨fd_System_names, F_System_names⟩ := (W.get 0 (d := p_System_names) rfl).2
  have G_System_names := ok_System_names (w := w) W F_System_names
  have B_System_names := FunD.bindsN (ps := N_System_names.take 1) F_System_names (fun _ _ _ _ _ _ us hl => match us, hl with | [_], _ => rfl)
  have c_System := W.cls 24 (x := "System") rfl
  have P_System_names := (W.get 0 (d := p_System_names) rfl).1
  obtain ⟨fd__law_draw, F__law_draw⟩ := W.c.def_ 3 (d := d__law_draw) rfl
  have G__law_draw := ok__law_draw (w := w) W F__law_draw
  have g__law_draw := W.glo 6 (x := "_law_draw") rfl
  have B__law_draw := FunD.bindsN (ps := N__law_draw.take 2) F__law_draw (fun _ _ _ _ _ _ us hl => match us, hl with | [_, _], _ => rfl)
  obtain ⟨fd__law_lengths, F__law_lengths⟩ := W.c.def_ 12 (d := d__law_lengths) rfl
  have G__law_lengths := ok__law_lengths (w := w) W F__law_lengths
  have g__law_lengths := W.glo 38 (x := "_law_lengths") rfl
  have B__law_lengths := FunD.bindsN (ps := N__law_lengths.take 2) F__law_lengths (fun _ _ _ _ _ _ us hl => match us, hl with | [_, _], _ => rfl)
  have b_sorted := W.free 28 (x := "sorted") rfl
  obtain ⟨fd_needed, F_needed⟩ := W.c.def_ 15 (d := d_needed) rfl
  have G_needed := ok_needed (w := w) W F_needed
  have g_needed := W.glo 48 (x := "needed") rfl
  have K_needed_cell_system := kbn_of (ps := N_needed.take 2) (ks := ["cell", "system"]) (n := 0) [.inr 1, .inr 0] F_needed (fun _ _ _ _ _ _ us ws h1 h2 => match us, ws, h1, h2 with | [], [_, _], _, _ => rfl)
  have B_needed := FunD.bindsN (ps := N_needed.take 2) F_needed (fun _ _ _ _ _ _ us hl => match us, hl with | [_, _], _ => rfl)
  obtain ⟨fd__law_ring, F__law_ring⟩ := W.c.def_ 25 (d := d__law_ring) rfl
  have G__law_ring := ok__law_ring (w := w) W F__law_ring
  have g__law_ring := W.glo 49 (x := "_law_ring") rfl
  have B__law_ring := FunD.bindsN (ps := N__law_ring.take 1) F__law_ring (fun _ _ _ _ _ _ us hl => match us, hl with | [_], _ => rfl)
  refine fn_ok0 (ms := ms_law) F sc_law fun cdv A outer s H E hr => ?_
  unfold ms_law
  exact (rs_cons (rs_set (i := 1) sc_law.nd (re_call G__law_rng (hr.mono (by decide)) rfl g__law_rng F__law_rng.kp B__law_rng .nil (fun _ _ _ => rfl) pass_any (ra_cons (re_var 0) ra_nil)))
    (rs_cons (rs_for PassesOwn.never rfl (ri_range1 rfl b_range (ra_cons (re_op op_add_any re_int (re_cb (cb_min rfl hr) rfl b_min (by rfl) (ra_cons re_int (ra_cons (re_cb cb_len rfl b_len (by rfl) (ra_cons (re_var 0) ra_nil)) ra_nil)))) ra_nil)) (rg_nm sc_law.nd) (rs_cons (rs_asg (re_fz 9 (re_call G__law_small (hr.mono (by decide)) rfl g__law_small F__law_small.kp B__law_small .nil (fun _ _ _ => rfl) pass_any (ra_cons (re_var 1) ra_nil))) (rg_tp rfl (rgs_cons (rg_nm sc_law.nd) (rgs_cons (rg_nm sc_law.nd) rgs_nil))))
    (rs_cons (rs_set (i := 9) sc_law.nd (re_fz 9 (re_make mk_System g_System G_System_init (hr.mono (by decide)) rfl B_System_init_3 dr_B_System_init_3 (fun _ _ _ => ⟨_, _, rfl, rfl, rfl⟩) pass_any (ra_cons (re_var 8) (ra_cons (re_var 3) ra_nil)))))
    (rs_one (rs_for PassesOwn.never rfl (ri_range1 rfl b_range (ra_cons re_int ra_nil)) (rg_nm sc_law.nd) (rs_cons (rs_set (i := 4) sc_law.nd (re_tup (ra_cons (re_sub (ix_any hr) (re_fz 9 (re_prop g_System c_System (re_var 9) P_System_names G_System_names (hr.mono (by decide)) B_System_names .nil (fun _ _ _ => rfl) pass_any)) (re_fz 9 (re_call G__law_draw (hr.mono (by decide)) rfl g__law_draw F__law_draw.kp B__law_draw .nil (fun _ _ _ => rfl) pass_any (ra_cons (re_var 1) (ra_cons (re_cb cb_len rfl b_len (by rfl) (ra_cons (re_var 3) ra_nil)) ra_nil)))) (fun _ _ => rfl)) (ra_cons (re_fz 9 (re_call G__law_point (hr.mono (by decide)) rfl g__law_point F__law_point.kp B__law_point .nil (fun _ _ _ => rfl) pass_any (ra_cons (re_var 1) (ra_cons (re_var 8) ra_nil)))) ra_nil))))
    (rs_cons (rs_set (i := 5) sc_law.nd (re_fz 9 (re_call G__law_lengths (hr.mono (by decide)) rfl g__law_lengths F__law_lengths.kp B__law_lengths .nil (fun _ _ _ => rfl) pass_any (ra_cons (re_var 3) (ra_cons (re_var 4) ra_nil)))))
    (rs_one (rs_if (PW.pt (rw_and (rt_cmp op_isnot_n (re_var 5) re_non (by rfl)) (rw_and1 (rt_cmp (op_eqE0 (neg := true) hr) (re_var 5) re_dnew (by rfl))))) (rs_cons (rs_setComp (own := [("_law_row", 11)]) rfl sc_law.nd (sw_true rfl rfl rfl rfl) (ri_any (re_cb (cb_sortT hr) rfl b_sorted (by rfl) (ra_cons (re_comp (own := [("_law_one", 13)]) rfl sc_law.nd (ri_keysN (re_var 5)) (blkOk_by (own := [("_law_one", 13)]) (by kernel_rfl)) (fun _ _ _ _ _ => (rg_nm sc_law.nd)) (fun _ _ _ _ _ => rts_nil) (fun _ _ _ _ _ => (re_tup (ra_cons (re_sub (ix_Dn hr) (re_var 5) (re_var 13) (fun _ _ => rfl)) (ra_cons (re_sub (ix_any hr) (re_var 13) re_int (fun _ _ => rfl)) (ra_cons (re_sub (ix_any hr) (re_var 13) re_int (fun _ _ => rfl)) ra_nil)))))) ra_nil))) (blkOk_by (own := [("_law_row", 11)]) (by kernel_rfl)) (fun _ _ _ _ _ => (rg_nm sc_law.nd)) (fun _ _ _ _ _ => rts_nil) (fun _ _ _ _ _ => (re_slice sl_any (re_var 11) (ro_some re_int) ro_no)))
    (rs_cons (rs_for PassesOwn.never rfl (ri_any (re_tup (ra_cons (re_call G_needed (hr.mono (by decide)) rfl g_needed F_needed.kp B_needed .nil (fun _ _ _ => rfl) pass_any (ra_cons (re_var 9) (ra_cons (re_var 4) ra_nil))) (ra_cons (re_callN0 (ks := ["cell", "system"]) (gE := prm .non [.inr 1, .inr 0]) G_needed (hr.mono (by decide)) rfl g_needed F_needed.kp K_needed_cell_system (prm_ok _) pass_any (rk_cons (re_var 4) (rk_cons (re_var 9) rk_nil))) ra_nil)))) (rg_nm sc_law.nd) (rs_cons (rs_if (rt_cmp (op_ne_any hr) (re_var 12) (re_var 6) (by rfl)) (rs_one (rs_ret re_bl)) rs_nil)
    (rs_one (rs_expr (re_bm PySem.F.plainAttrs_list PySem.F.slot_list_append PySem.F.type_list_append mt_append_e isLst_ty (re_var 12) (ra_cons re_non ra_nil))))))
    (rs_one (rs_if (rt_cmp (op_ne_any hr) (re_fz 9 (re_call G_needed (hr.mono (by decide)) rfl g_needed F_needed.kp B_needed .nil (fun _ _ _ => rfl) pass_any (ra_cons (re_var 9) (ra_cons (re_var 4) ra_nil)))) (re_var 6) (by rfl)) (rs_one (rs_ret re_bl)) rs_nil)))) rs_nil)))))))))
    (rs_cons (rs_set (i := 3) sc_law.nd (re_fz 9 (re_call G__law_ring (hr.mono (by decide)) rfl g__law_ring F__law_ring.kp B__law_ring .nil (fun _ _ _ => rfl) pass_any (ra_cons (re_var 1) ra_nil))))
    (rs_cons (rs_set (i := 4) sc_law.nd (re_tup (ra_cons (re_sub (ix_any hr) (re_sub (ix_any hr) (re_var 3) re_int (fun _ _ => rfl)) re_int (fun _ _ => rfl)) (ra_cons (re_tup (ra_cons (re_op op_sub_int re_int (re_fz 9 (re_call G__law_draw (hr.mono (by decide)) rfl g__law_draw F__law_draw.kp B__law_draw .nil (fun _ _ _ => rfl) pass_any (ra_cons (re_var 1) (ra_cons re_int ra_nil))))) ra_nil)) ra_nil))))
    (rs_cons (rs_set (i := 5) sc_law.nd (re_fz 9 (re_call G__law_lengths (hr.mono (by decide)) rfl g__law_lengths F__law_lengths.kp B__law_lengths .nil (fun _ _ _ => rfl) pass_any (ra_cons (re_var 3) (ra_cons (re_var 4) ra_nil)))))
    (rs_cons (rs_setComp (own := [("_law_row", 11)]) rfl sc_law.nd (sw_true rfl rfl rfl rfl) (ri_any (re_cb (cb_sortT hr) rfl b_sorted (by rfl) (ra_cons (re_comp (own := [("_law_one", 13)]) rfl sc_law.nd (ri_keysN (re_var 5)) (blkOk_by (own := [("_law_one", 13)]) (by kernel_rfl)) (fun _ _ _ _ _ => (rg_nm sc_law.nd)) (fun _ _ _ _ _ => rts_nil) (fun _ _ _ _ _ => (re_tup (ra_cons (re_sub (ix_Dn hr) (re_var 5) (re_var 13) (fun _ _ => rfl)) (ra_cons (re_sub (ix_any hr) (re_var 13) re_int (fun _ _ => rfl)) (ra_cons (re_sub (ix_any hr) (re_var 13) re_int (fun _ _ => rfl)) ra_nil)))))) ra_nil))) (blkOk_by (own := [("_law_row", 11)]) (by kernel_rfl)) (fun _ _ _ _ _ => (rg_nm sc_law.nd)) (fun _ _ _ _ _ => rts_nil) (fun _ _ _ _ _ => (re_slice sl_any (re_var 11) (ro_some re_int) ro_no)))
    (rs_cons (rs_if (rt_cmp (op_ne_any hr) (re_fz 9 (re_call G_needed (hr.mono (by decide)) rfl g_needed F_needed.kp B_needed .nil (fun _ _ _ => rfl) pass_any (ra_cons (re_fz 9 (re_make mk_System g_System G_System_init (hr.mono (by decide)) rfl B_System_init_3 dr_B_System_init_3 (fun _ _ _ => ⟨_, _, rfl, rfl, rfl⟩) pass_any (ra_cons re_int (ra_cons (re_var 3) ra_nil)))) (ra_cons (re_var 4) ra_nil)))) (re_var 6) (by rfl)) (rs_one (rs_ret re_bl)) rs_nil)
    (rs_cons (rs_set (i := 7) sc_law.nd (re_fz 9 (re_make mk_System g_System G_System_init (hr.mono (by decide)) rfl B_System_init_3 dr_B_System_init_3 (fun _ _ _ => ⟨_, _, rfl, rfl, rfl⟩) pass_any (ra_cons re_int (ra_cons (re_lst (ra_cons (re_tup (ra_cons re_str (ra_cons re_int (ra_cons (re_lst (ra_cons (re_tup (ra_cons re_str (ra_cons (re_tup (ra_cons re_int (ra_cons (re_un un_neg_int re_int) ra_nil))) (ra_cons re_int ra_nil)))) (ra_cons (re_tup (ra_cons re_str (ra_cons (re_tup (ra_cons re_int (ra_cons re_int ra_nil))) (ra_cons re_int ra_nil)))) ra_nil))) ra_nil)))) (ra_cons (re_tup (ra_cons re_str (ra_cons re_int (ra_cons (re_lst (ra_cons (re_tup (ra_cons re_str (ra_cons (re_tup (ra_cons (re_un un_neg_int re_int) (ra_cons re_int ra_nil))) (ra_cons re_int ra_nil)))) (ra_cons (re_tup (ra_cons re_str (ra_cons (re_tup (ra_cons re_int (ra_cons re_int ra_nil))) (ra_cons re_int ra_nil)))) ra_nil))) ra_nil)))) ra_nil))) ra_nil)))))
    (rs_one (rs_ret (re_cmp (op_eq_any hr) (re_fz 9 (re_call G_needed (hr.mono (by decide)) rfl g_needed F_needed.kp B_needed .nil (fun _ _ _ => rfl) pass_any (ra_cons (re_var 7) (ra_cons (re_tup (ra_cons re_str (ra_cons (re_tup (ra_cons re_int (ra_cons re_int ra_nil))) ra_nil))) ra_nil)))) (re_lst (ra_cons (re_tup (ra_cons re_str (ra_cons (re_tup (ra_cons re_int (ra_cons re_int ra_nil))) ra_nil))) (ra_cons (re_tup (ra_cons re_str (ra_cons (re_tup (ra_cons re_int (ra_cons re_int ra_nil))) ra_nil))) (ra_cons (re_tup (ra_cons re_str (ra_cons (re_tup (ra_cons re_int (ra_cons re_int ra_nil))) ra_nil))) (ra_cons (re_tup (ra_cons re_str (ra_cons (re_tup (ra_cons re_int (ra_cons re_int ra_nil))) ra_nil))) ra_nil))))) (by rfl))))))))))))
end LW
set_option maxHeartbeats 0
namespace LW
open PySem PySem.Spec PyProof.Rows L2 VM
private theorem nt_i {a b : Prop} (h : b) : bif !true then a else b := h
private theorem compR_i {mi : MI} {g : Tg} {tt : MT} {te : ME} {vs : List Nat} {xc : XC} {es : Es} {eh : Eh} {q : KE} (h : mi xc es eh fun xs ok eh1 => compL g tt te vs ok (qRef q) xs [] es eh1) : mCompR mi g tt te vs xc es eh q := h
private theorem nf_i {a b : Prop} (h : a) : bif !false then a else b := h
private theorem excv_i {cn : Str} {a : ME} {xc : XC} {es : Es} {eh : Eh} {q : KE} (h : a xc es eh fun x eh1 => q (.exc cn x) eh1) : mExc cn a xc es eh q := h
private theorem xval_i {ls : List Str} {a : ME} {xc : XC} {es : Es} {eh : Eh} {q : KE} (h : a xc es eh fun x eh1 => ∃ C y, x = .exc C y ∧ C ∈ ls ∧ q y eh1) : mXv ls a xc es eh q := h
private theorem daug_i {md mk mv : ME} {xc : XC} {d : Dn} {s : Es} {eh : Eh} (h : md xc s eh fun x eh1 => mk xc s eh1 fun y eh2 => ∃ p kvs key i, x = .ref p ∧ eh2 p = some (.dct kvs) ∧ keyE y = some key ∧ getK kvs key = some (.int i) ∧
    mv xc s eh2 fun z eh3 => ∃ j kvs', z = .int j ∧ eh3 p = some (.dct kvs') ∧ kvs'.length < sizeLine ∧ d.nx s (eupd eh3 p (some (.dct (putKE kvs' key (.int (i + j))))))) : sDAugE md mk mv xc d s eh := h
local macro_rules | `(tactic| walk_at "vm") => `(tactic| first
  | with_reducible refine fn_i ?_ | with_reducible refine seq_i ?_ | with_reducible refine next_i ?_ | with_reducible refine brk_i ?_ | with_reducible refine cont_i ?_ | with_reducible refine expr_i ?_ | with_reducible refine ret_i ?_ | with_reducible refine retN_i ?_
  | with_reducible refine set_i ?_ | with_reducible refine if_i ?_ | with_reducible refine asg_i ?_ | with_reducible refine par_i ?_ | with_reducible refine fld_s ?_ | with_reducible refine dput_i ?_ | with_reducible refine lput_i ?_ | with_reducible refine for_i ?_
  | with_reducible refine c_i ?_ | ((with_reducible apply var_i); rfl) | with_reducible refine op_i ?_ | with_reducible refine un_i ?_ | with_reducible refine chain_i ?_ | with_reducible refine ife_i ?_ | with_reducible refine anil_i ?_ | with_reducible refine acons_i ?_ | with_reducible refine astar_i ?_
  | with_reducible refine tup_i ?_ | with_reducible refine lst_i ?_ | with_reducible refine lstR_i ?_ | with_reducible refine fld_i ?_ | with_reducible refine dnew_i ?_ | with_reducible refine cb_i ?_ | with_reducible refine bm_i ?_ | with_reducible refine sl_i ?_ | with_reducible refine no_i ?_ | with_reducible refine pt_i ?_
  | with_reducible refine fzc_i ?_ | with_reducible refine fzn_i ?_ | with_reducible refine fzp_i ?_ | with_reducible refine fzm_i ?_ | with_reducible refine methn_i ?_ | with_reducible refine max2_i ?_ | with_reducible refine fzk_i ?_ | with_reducible refine call_i ?_ | with_reducible refine calln_i ?_ | with_reducible refine make_i ?_ | with_reducible refine prop_i ?_ | with_reducible refine meth_i ?_ | with_reducible refine sortk_i ?_ | with_reducible refine comp_i ?_ | with_reducible refine comp2_i ?_
  | with_reducible refine val_i ?_ | with_reducible refine tru_i ?_ | with_reducible refine tand_i ?_ | with_reducible refine tor_i ?_ | with_reducible refine tnot_i ?_ | with_reducible refine tyes_i ?_ | with_reducible refine mand_i ?_ | with_reducible refine mor_i ?_ | with_reducible refine mnot_i ?_
  | with_reducible refine bl_i ?_ | with_reducible refine cT_i ?_ | with_reducible refine cF_i ?_ | with_reducible refine add_i ?_ | with_reducible refine sub_i ?_ | with_reducible refine neg_i ?_ | with_reducible refine lt_i ?_ | with_reducible refine le_i ?_ | with_reducible refine gt_i ?_ | with_reducible refine ge_i ?_
  | with_reducible refine eqI_i ?_ | with_reducible refine neI_i ?_ | with_reducible refine eqS_i ?_ | with_reducible refine int_i ?_ | with_reducible refine abs_i ?_ | with_reducible refine min2_i ?_ | with_reducible refine any_i ?_ | with_reducible refine rng1_i ?_ | with_reducible refine enum_i ?_ | with_reducible refine zip_i ?_ | with_reducible refine zipT_i ?_ | with_reducible refine items_i ?_)
local macro_rules | `(tactic| walk_at "go") => `(tactic| repeat (first
  | walk_at "vm"
  | with_reducible refine excv_i ?_ | with_reducible refine xval_i ?_ | with_reducible refine daug_i ?_ | with_reducible refine compR_i ?_ | with_reducible refine nt_i ?_ | with_reducible refine nf_i ?_
  | with_reducible refine ⟨szL (by simp), ?_⟩
  | with_reducible refine asgx_i (by with_unfolding_all rfl) ?_
  | with_reducible refine walkT_i ?_ | with_reducible refine walkS_i ?_ | with_reducible refine lenF_i ?_ | with_reducible refine lenT_i ?_ | with_reducible refine tru_bl ?_ | with_reducible refine intx_i ?_
  | with_reducible refine tupleL_i ?_ | with_reducible refine slT_i ?_ | with_reducible refine rev_i ?_
  | dsimp only))
local macro_rules | `(tactic| walk_at "nz") => `(tactic| simp only [List.map_cons, List.map_nil, List.append_nil, List.length_cons, List.length_nil, Nat.reduceAdd, Nat.reduceSub, List.replicate_succ, List.replicate_zero, List.cons_append, List.nil_append, List.set_cons_zero, List.set_cons_succ])

/-! ### the source of draws -/
def rgO (s : Int × Int × Int) : EO := .lst [.int s.1, .int s.2.1, .int s.2.2]
structure RgOk (b : Int) (s : Int × Int × Int) : Prop where
  x0 : 0 ≤ s.1
  y0 : 0 ≤ s.2.1
  y1 : s.2.1 < 2 ^ 62
  z0 : 0 ≤ s.2.2
  z1 : s.2.2 ≤ b
theorem RgOk.mono {b c : Int} {s : Int × Int × Int} (h : RgOk b s) (l : b ≤ c) : RgOk c s := ⟨h.x0, h.y0, h.y1, h.z0, by have := h.z1; omega⟩
theorem log_small {n : Int} (h : 0 < n) (h2 : n < 2 ^ 200) : 0 < n ∧ n.natAbs.log2 < 9000 := by
  refine ⟨h, ?_⟩
  have h3 : n.natAbs < 2 ^ 200 := by omega
  have h4 := (Nat.log2_lt (n := n.natAbs) (k := 200) (by omega)).mpr h3
  omega
theorem bits_of {i : Int} {m : Nat} (h : i.natAbs < 2 ^ m) : Builtin.Int.intBits i ≤ m := PySem.intBits_le_iff.mpr h
theorem draw_ok {xc : XC} {a : Addr} {s : Int × Int × Int} {n b : Int} {eh : Eh} {q : KE} (h : eh a = some (rgO s)) (hs : RgOk b s) (hb : b ≤ 1000000000) (hn : 0 < n) (hn2 : n < 2 ^ 200)
    (k : ∀ v s', 0 ≤ v → v < n → RgOk (b + 1) s' → q (.int v) (eupd eh a (some (rgO s')))) : fn__law_draw xc [.ref a, .int n] eh q := by
  obtain ⟨x, y, z⟩ := s
  have e1 : seqE eh (.ref a) = some [.int x, .int y, .int z] := by simp only [seqE, h, rgO]
  have hx0 : 0 ≤ x := hs.x0
  have hy0 : 0 ≤ y := hs.y0
  have hy1 : y < 2 ^ 62 := hs.y1
  have hz0 : 0 ≤ z := hs.z0
  have hz1 : z ≤ b := hs.z1
  unfold fn__law_draw ms__law_draw
  repeat walk_at "vm"
  refine ix_i e1 (by rfl) ?_
  repeat walk_at "vm"
  refine cD_i (fun hx => ?_) (fun hx => ?_)
  · repeat walk_at "vm"
    refine ix_i e1 (by rfl) ?_
    repeat walk_at "vm"
    refine mod_i hn ?_
    dsimp only
    repeat walk_at "vm"
    refine ix_i e1 (by rfl) ?_
    repeat walk_at "vm"
    refine div_i (log_small hn hn2) ?_
    repeat walk_at "vm"
    refine ⟨_, _, _, _, rfl, h, rfl, rfl, ?_⟩
    repeat walk_at "vm"
    exact k _ (x / n, y, z) (Int.emod_nonneg _ (by omega)) (Int.emod_lt_of_pos _ hn) ⟨Int.ediv_nonneg hx0 (by omega), hy0, hy1, hz0, by show z ≤ b + 1; omega⟩
  · repeat walk_at "vm"
    dsimp only
    repeat walk_at "vm"
    refine ix_i e1 (by rfl) ?_
    repeat walk_at "vm"
    refine ⟨_, _, _, _, rfl, h, rfl, rfl, ?_⟩
    have e3 : seqE (eupd eh a (some (.lst ([EV.int x, .int y, .int z].set 2 (.int (z + 1)))))) (.ref a) = some [.int x, .int y, .int (z + 1)] := by simp only [seqE, eupd_same]; rfl
    repeat walk_at "vm"
    refine ix_i e3 (by rfl) ?_
    repeat walk_at "vm"
    refine ix_i e3 (by rfl) ?_
    refine mul_i (.inl (.inl (by constructor <;> decide))) ?_
    repeat walk_at "vm"
    refine pow_i ⟨by decide, ?_⟩ ?_
    · have hb1 : Builtin.Int.intBits (y + 998244353 * (z + 1)) ≤ 100 := bits_of (by omega)
      omega
    repeat walk_at "vm"
    refine mod_i (by decide) ?_
    dsimp only
    generalize hw : (y + 998244353 * (z + 1)) ^ (3 : Int).toNat % 162259276829213363391578010288127 = w
    have hw0 : 0 ≤ w := by rw [← hw]; exact Int.emod_nonneg _ (by decide)
    have hw1 : w < 162259276829213363391578010288127 := by rw [← hw]; exact Int.emod_lt_of_pos _ (by decide)
    repeat walk_at "vm"
    refine ix_i e3 (by rfl) ?_
    refine mul_i (.inl (.inl (by constructor <;> decide))) ?_
    repeat walk_at "vm"
    refine pow_i ⟨by decide, ?_⟩ ?_
    · have hb1 : Builtin.Int.intBits (w + 32452843 * (z + 1)) ≤ 120 := bits_of (by omega)
      omega
    repeat walk_at "vm"
    refine mod_i (by decide) ?_
    dsimp only
    generalize (w + 32452843 * (z + 1)) ^ (3 : Int).toNat % 170141183460469231731687303715884105727 = u
    repeat walk_at "vm"
    refine div_i (by decide) ?_
    repeat walk_at "vm"
    refine mod_i hn ?_
    exact k _ (x, y, z + 1) (Int.emod_nonneg _ (by omega)) (Int.emod_lt_of_pos _ hn) ⟨hx0, hy0, hy1, by show 0 ≤ z + 1; omega, by show z + 1 ≤ b + 1; omega⟩

/-! ### what a call leaves -/
def Fr (eh : Eh) (a : Addr) (s : Int × Int × Int) (eh' : Eh) : Prop := (∀ c, eh c ≠ none → c ≠ a → eh' c = eh c) ∧ eh' a = some (rgO s)
theorem Fr.dr {eh eh' : Eh} {a : Addr} {s : Int × Int × Int} (f : Fr eh a s eh') (h : eh a ≠ none) : drE (nw eh) eh' = eupd eh a (some (rgO s)) := by
  funext c
  unfold drE nw eupd
  by_cases hc : c = a
  · subst hc; cases e : eh c <;> simp_all [f.2]
  · cases e : eh c with
    | none => simp [hc]
    | some o => simp only [Option.isNone_some, Bool.false_eq_true, if_false, if_neg hc]; rw [f.1 c (by simp [e]) hc, e]
theorem Fr.one {eh : Eh} {a : Addr} {s : Int × Int × Int} : Fr eh a s (eupd eh a (some (rgO s))) := ⟨fun _ _ n => eupd_ne n, eupd_same⟩
theorem Fr.trans {eh eh1 eh2 : Eh} {a : Addr} {s s' : Int × Int × Int} (f : Fr eh a s eh1) (g : Fr eh1 a s' eh2) : Fr eh a s' eh2 := ⟨fun c h n => by rw [g.1 c (by rw [f.1 c h n]; exact h) n, f.1 c h n], g.2⟩
theorem draw_fz {S : Addr → Bool} {xc : XC} {a : Addr} {s : Int × Int × Int} {n b : Int} {eh : Eh} {q : KE} (hS : S = nw eh) (h : eh a = some (rgO s)) (hs : RgOk b s) (hb : b ≤ 1000000000) (hn : 0 < n) (hn2 : n < 2 ^ 200)
    (k : ∀ v s', 0 ≤ v → v < n → RgOk (b + 1) s' → q (.int v) (eupd eh a (some (rgO s')))) : ([EV.ref a, .int n] ++ []).length = 2 ∧ FZ S fn__law_draw xc ([EV.ref a, .int n] ++ []) eh q :=
  ⟨rfl, draw_ok h hs hb hn hn2 fun v s' h0 h1 hs' => by rw [hS, drE_same (by rw [h]; simp)]; exact k v s' h0 h1 hs'⟩
theorem fz_strs {S : Addr → Bool} {eh : Eh} {k : Nat} (ws : List Str) : (ws.map EV.str).map (fz S eh k) = ws.map EV.str := by
  rw [List.map_map]; apply List.map_congr_left; intro w _; cases k <;> rfl
theorem fz_ints {S : Addr → Bool} {eh : Eh} {k : Nat} (ws : List Int) : (ws.map EV.int).map (fz S eh k) = ws.map EV.int := by
  rw [List.map_map]; apply List.map_congr_left; intro w _; cases k <;> rfl
/-! ### items mixed -/
theorem fzl {eh eh0 : Eh} {p : Addr} {xs ys : List EV} {k : Nat} (h0 : eh0 p = none) (h : eh p = some (.lst xs)) (e : xs.map (fz (nw eh0) eh k) = ys) : fz (nw eh0) eh (k + 1) (.ref p) = .lst ys := by
  simp only [fz, nw, h0, h, Option.isNone_none, if_true, e]
theorem erase_perm {α : Type} : ∀ (l : List α) {i : Nat} (h : i < l.length), (l[i] :: l.eraseIdx i).Perm l
  | x :: l, 0, _ => by simp
  | x :: l, i + 1, h => by
    have := erase_perm l (i := i) (by simpa using h)
    simp only [List.getElem_cons_succ, List.eraseIdx_cons_succ]
    exact (List.Perm.swap _ _ _).trans (this.cons x)
theorem perm_map {α β : Type} {f : α → β} {l m : List β} (h : l.Perm m) : ∀ ws : List α, m = ws.map f → ∃ us : List α, us.Perm ws ∧ l = us.map f := by
  induction h with
  | nil => intro ws e; exact ⟨[], by cases ws <;> simp_all, rfl⟩
  | cons x _ ih =>
    intro ws e
    cases ws with
    | nil => cases e
    | cons w ws =>
      simp only [List.map_cons, List.cons.injEq] at e
      obtain ⟨us, p, e2⟩ := ih ws e.2
      exact ⟨w :: us, p.cons w, by rw [e.1, e2]; rfl⟩
  | swap x y l =>
    intro ws e
    cases ws with
    | nil => cases e
    | cons w ws => cases ws with
      | nil => simp at e
      | cons v ws =>
        simp only [List.map_cons, List.cons.injEq] at e
        exact ⟨v :: w :: ws, .swap _ _ _, by rw [e.1, e.2.1, e.2.2]; rfl⟩
  | trans _ _ ih1 ih2 =>
    intro ws e
    obtain ⟨us, p, e2⟩ := ih2 ws e
    obtain ⟨vs, p2, e3⟩ := ih1 us e2
    exact ⟨vs, p2.trans p, e3⟩
theorem mixedE_fz {S : Addr → Bool} {xc : XC} {a : Addr} {s : Int × Int × Int} {ws : List EV} {n : Nat} {b : Int} {eh : Eh} {q : KE} (hS : S = nw eh) (h : eh a = some (rgO s)) (hs : RgOk b s) (hb : b + 100 ≤ 1000000000) (hl : ws.length ≤ 90) (ho : ∀ w ∈ ws, okD n w = true) (hn : n ≤ 50)
    (k : ∀ (ts : List EV) (s' : Int × Int × Int), ts.Perm ws → RgOk (b + 100) s' → q (.lst ts) (eupd eh a (some (rgO s')))) : ([EV.ref a, .lst ws] ++ []).length = 2 ∧ FZ S fn__law_mixed xc ([EV.ref a, .lst ws] ++ []) eh q := by
  refine ⟨rfl, ?_⟩
  subst hS
  unfold FZ fn__law_mixed ms__law_mixed
  walk_at "go"
  refine listR_i rfl fun p hp => ?_
  walk_at "go"
  intro p2 hp2
  walk_at "go"
  refine ⟨_, _, rfl, ?_⟩
  have hap : p ≠ a := fun z => by rw [z, h] at hp; cases hp
  have hpp : p2 ≠ p := fun z => by rw [z, eupd_same] at hp2; cases hp2
  rw [eupd_ne hpp] at hp2
  have hap2 : p2 ≠ a := fun z => by rw [z, h] at hp2; cases hp2
  walk_at "go"
  refine while_inv (fun m es eh' => ∃ (us ts : List EV) (s' : Int × Int × Int) (c : Int), us.length = m ∧ (us ++ ts).Perm ws ∧ eh' a = some (rgO s') ∧ eh' p = some (.lst us) ∧ eh' p2 = some (.lst ts) ∧ RgOk c s' ∧ c + m ≤ b + 90 ∧ (∀ c, c ≠ a → c ≠ p → c ≠ p2 → eh' c = eh c) ∧
    es = [some (.ref a), some (.lst ws), some (.ref p), some (.ref p2)]) ws.length ?_ ?_
  · exact ⟨ws, [], s, b, rfl, by simp, by rw [eupd_ne hap2.symm, eupd_ne hap.symm]; exact h, by rw [eupd_ne hpp.symm, eupd_same], eupd_same, hs, by omega, fun c h1 h2 h3 => by rw [eupd_ne h3, eupd_ne h2], rfl⟩
  · rintro m es eh' ⟨us, ts, s', c, hm, hperm, ha', hp', hp2', hs', hc, fr, rfl⟩ qt hq
    have hlen := hperm.length_eq
    rw [List.length_append] at hlen
    have hou : ∀ w ∈ us, okD n w = true := fun w hw => ho w (hperm.mem_iff.mp (by simp [hw]))
    walk_at "go"
    refine eq_i (n := n + 1) (m := 1) (decide (us = [])) (fro_ref hp') fro_same (List.all_eq_true.mpr hou) rfl (by omega) (by omega) (by cases us <;> simp) ?_
    rw [Bool.true_xor]
    refine ⟨_, rfl, hq _ _ (fun ht d' hrt hn' _ _ => ?_) (fun hf => ?_)⟩
    · have hne : us ≠ [] := by simpa using ht
      have hpos : 0 < us.length := List.length_pos_iff.mpr hne
      unfold bd__law_mixed_1
      walk_at "go"
      refine ⟨⟨ts, by simp only [lstE, hp2']⟩, ?_⟩
      walk_at "go"
      refine ⟨⟨us, by simp only [lstE, hp']⟩, ?_⟩
      walk_at "go"
      refine lenL_i (fro_ref hp') ?_
      walk_at "go"
      refine draw_fz rfl ha' hs' (by omega) (by omega) (by omega) fun v s2 v0 v1 hs2 => ?_
      obtain ⟨i, rfl⟩ := Int.eq_ofNat_of_zero_le v0
      have hi : i < us.length := by omega
      refine ⟨us, i, us[i], by rw [eupd_ne hap]; exact hp', by omega, by omega, ?_, by simp [hi], ?_⟩
      · simp only [ixN]; rw [if_pos (by omega), if_pos (by omega)]; rfl
      walk_at "go"
      refine ⟨ts, by rw [eupd_ne hpp, eupd_ne hap2]; exact hp2', szT (by omega), ?_⟩
      refine hn' (m - 1) _ _ (by omega) ⟨us.eraseIdx i, ts ++ [us[i]], s2, c + 1, by rw [List.length_eraseIdx_of_lt hi, hm], ?_, by rw [eupd_ne hap2.symm, eupd_ne hap.symm, eupd_same], by rw [eupd_ne hpp.symm, eupd_same], eupd_same, hs2, by omega, fun x x1 x2 x3 => by rw [eupd_ne x3, eupd_ne x2, eupd_ne x1, fr x x1 x2 x3], rfl⟩
      refine List.Perm.trans ?_ hperm
      have e1 := erase_perm us hi
      rw [← List.append_assoc]
      refine List.Perm.trans List.perm_append_comm ?_
      rw [← List.append_assoc]
      exact e1.append_right ts
    · have he : us = [] := by simpa using hf
      subst he
      walk_at "go"
      have hfr : Fr eh a s' eh' := ⟨fun c hc hca => fr c hca (fun z => hc (z ▸ hp)) (fun z => hc (z ▸ hp2)), ha'⟩
      have hot : okB (n + 1) (.lst ts) = true := okB_of (n := n + 1) (List.all_eq_true.mpr fun w hw => ho w (hperm.mem_iff.mp (by simpa using hw)))
      have e2 : ts.map (fz (nw eh) eh' 8) = ts := (List.map_congr_left fun y hy => fz_okB (n := n) (List.all_eq_true.mp hot y hy)).trans (List.map_id _)
      rw [hfr.dr (by rw [h]; simp), fzl hp2 hp2' e2]
      exact k ts s' (by simpa using hperm) (hs'.mono (by omega))
theorem mixed_fz {S : Addr → Bool} {xc : XC} {a : Addr} {s : Int × Int × Int} {ws : List Str} {b : Int} {eh : Eh} {q : KE} (hS : S = nw eh) (h : eh a = some (rgO s)) (hs : RgOk b s) (hb : b + 100 ≤ 1000000000) (hl : ws.length ≤ 90)
    (k : ∀ (ts : List Str) (s' : Int × Int × Int), ts.Perm ws → RgOk (b + 100) s' → q (.lst (ts.map .str)) (eupd eh a (some (rgO s')))) : ([EV.ref a, .lst (ws.map .str)] ++ []).length = 2 ∧ FZ S fn__law_mixed xc ([EV.ref a, .lst (ws.map .str)] ++ []) eh q :=
  mixedE_fz (n := 0) hS h hs hb (by simpa using hl) (fun w hw => by obtain ⟨x, _, rfl⟩ := List.mem_map.mp hw; rfl) (by decide) fun ts s' hp hs' => by
    obtain ⟨us, h1, rfl⟩ := perm_map hp ws rfl
    exact k us s' h1 hs'

/-! ### vectors drawn -/
theorem szl {n : Nat} (h : n ≤ 1000) : n ≤ sizeLine := Nat.le_trans h (by decide)
theorem fz_tupI {S : Addr → Bool} {eh : Eh} {k : Nat} (ns : List Int) : fz S eh (k + 1) (.tup (ns.map .int)) = .tup (ns.map .int) := by
  show EV.tup ((ns.map EV.int).map (fz S eh k)) = _
  rw [fz_ints]
theorem vector_loop {xc : XC} {d : Dn} {a p : Addr} {dims wide : Int} (hap : p ≠ a) (hw0 : 0 ≤ wide) (hw1 : wide ≤ 1000000) : ∀ (L : List EV) (ns : List Int) (s : Int × Int × Int) (b : Int) (z : Option EV) (eh : Eh), ns.length + L.length ≤ 100 → eh a = some (rgO s) → eh p = some (.lst (ns.map .int)) →
    RgOk b s → b + 3 * L.length ≤ 1000000000 → (∀ n ∈ ns, -wide ≤ n ∧ (n ≤ wide ∨ n ≤ 1)) →
    (∀ (s' : Int × Int × Int) (ns' : List Int) (z' : Option EV) (eh' : Eh), RgOk (b + 3 * L.length) s' → ns'.length = ns.length + L.length → (∀ n ∈ ns', -wide ≤ n ∧ (n ≤ wide ∨ n ≤ 1)) → eh' a = some (rgO s') → eh' p = some (.lst (ns'.map .int)) → (∀ c, c ≠ a → c ≠ p → eh' c = eh c) →
      d.nx [some (.ref a), some (.int dims), some (.int wide), some (.ref p), z'] eh') →
    forL (.nm 4) (sExpr (mBM isLst oAppend (mVar 3) (aCons (mOp oIx (mLst (aCons (mC (.int 0)) (aCons (mC (.int 1)) (aCons (mFz 9 (mCall fn__law_draw 2 [] (aCons (mVar 0) (aCons (mOp oAdd (mVar 2) (mC (.int 1))) aNil)))) (aCons (mOp oSub (mC (.int 0)) (mFz 9 (mCall fn__law_draw 2 [] (aCons (mVar 0) (aCons (mOp oAdd (mVar 2) (mC (.int 1))) aNil))))) aNil))))) (mFz 9 (mCall fn__law_draw 2 [] (aCons (mVar 0) (aCons (mC (.int 4)) aNil))))) aNil))) (fun _ => True) xc d L [some (.ref a), some (.int dims), some (.int wide), some (.ref p), z] eh := by
  intro L
  induction L with
  | nil =>
    intro ns s b z eh _ ha hp hs hb hn k
    exact forL_nil trivial (k s ns z eh (hs.mono (by simp)) (by simp) hn ha hp fun c _ _ => rfl)
  | cons x L ih =>
    intro ns s b z eh hl ha hp hs hb hn k
    simp only [List.length_cons] at hl hb
    refine forL_cons trivial rfl ?_
    repeat walk_at "vm"
    refine ⟨⟨ns.map .int, by simp [lstE, hp]⟩, ?_⟩
    repeat walk_at "vm"
    refine draw_fz rfl ha hs (by omega) (by omega) (by omega) fun v1 s1 h1 h1' hs1 => ?_
    repeat walk_at "vm"
    refine draw_fz rfl eupd_same hs1 (by omega) (by omega) (by omega) fun v2 s2 h2 h2' hs2 => ?_
    repeat walk_at "vm"
    refine ⟨szl (by simp), ?_⟩
    repeat walk_at "vm"
    refine draw_fz rfl eupd_same hs2 (by omega) (by omega) (by omega) fun v3 s3 h3 h3' hs3 => ?_
    have hz : ∃ n, atI [EV.int 0, EV.int 1, EV.int v1, EV.int (0 - v2)] v3 = some (.int n) ∧ -wide ≤ n ∧ (n ≤ wide ∨ n ≤ 1) := by
      have : v3 = 0 ∨ v3 = 1 ∨ v3 = 2 ∨ v3 = 3 := by omega
      rcases this with rfl | rfl | rfl | rfl
      · exact ⟨0, rfl, by omega, by omega⟩
      · exact ⟨1, rfl, by omega, by omega⟩
      · exact ⟨v1, rfl, by omega, by omega⟩
      · exact ⟨0 - v2, rfl, by omega, by omega⟩
    obtain ⟨n, hz, n0, n1⟩ := hz
    refine ix_i (by rfl) hz ?_
    repeat walk_at "vm"
    rw [eupd_eupd, eupd_eupd]
    refine ⟨ns.map .int, by rw [eupd_ne hap]; exact hp, by rw [List.length_map]; exact Nat.lt_of_lt_of_le (show ns.length < 200 by omega) (by decide), ?_⟩
    refine ih (ns ++ [n]) s3 (b + 3) _ _ (by simp; omega) (by rw [eupd_ne hap.symm, eupd_same]) (by rw [eupd_same]; simp) (hs3.mono (by omega)) (by omega) ?_ fun s' ns' z' eh' r l m f1 f2 f3 => k s' ns' z' eh' (r.mono (by simp; omega)) (by simp at l ⊢; omega) m f1 f2 fun c c1 c2 => by rw [f3 c c1 c2, eupd_ne c2, eupd_ne c1]
    intro k hk
    rcases List.mem_append.mp hk with hk | hk
    · exact hn k hk
    · obtain rfl := List.mem_singleton.mp hk; exact ⟨n0, n1⟩
theorem vector_fz {S : Addr → Bool} {xc : XC} {a : Addr} {s : Int × Int × Int} {dims wide b : Int} {eh : Eh} {q : KE} (hS : S = nw eh) (h : eh a = some (rgO s)) (hs : RgOk b s) (hb : b + 100 ≤ 1000000000) (hd0 : 0 ≤ dims) (hd1 : dims ≤ 10) (hw0 : 0 ≤ wide) (hw1 : wide ≤ 1000000)
    (k : ∀ (ns : List Int) (s' : Int × Int × Int), ns.length = dims.toNat → (∀ n ∈ ns, -wide ≤ n ∧ (n ≤ wide ∨ n ≤ 1)) → RgOk (b + 30) s' → q (.tup (ns.map .int)) (eupd eh a (some (rgO s')))) : ([EV.ref a, .int dims, .int wide] ++ []).length = 3 ∧ FZ S fn__law_vector xc ([EV.ref a, .int dims, .int wide] ++ []) eh q := by
  refine ⟨rfl, ?_⟩
  subst hS
  unfold FZ fn__law_vector ms__law_vector
  repeat walk_at "vm"
  refine ⟨by decide, fun p hp => ?_⟩
  have hap : p ≠ a := fun z => by rw [z, h] at hp; cases hp
  repeat walk_at "vm"
  refine ⟨_, rfl, by omega, ?_⟩
  refine vector_loop hap hw0 hw1 _ [] s b _ _ (by simp; omega) (by rw [eupd_ne hap.symm]; exact h) (by rw [eupd_same]; rfl) hs (by simp; omega) (by simp) fun s' ns' z' eh' r l m f1 f2 f3 => ?_
  repeat walk_at "vm"
  refine tuple_i (xs := ns'.map .int) (by simp [seqE, f2]) ?_
  repeat walk_at "vm"
  dsimp only
  have hfr : Fr eh a s' eh' := ⟨fun c hc hca => by
    have n1 : c ≠ p := fun z => by rw [z] at hc; exact hc hp
    rw [f3 c hca n1, eupd_ne n1], f1⟩
  rw [hfr.dr (by rw [h]; simp)]
  have e : fz (nw eh) eh' 9 (.tup (ns'.map .int)) = .tup (ns'.map .int) := fz_tupI ns'
  rw [e]
  exact k ns' s' (by simpa using l) m (r.mono (by simp; omega))

/-! ### rows drawn -/
structure Rd where
  t : Str
  v : List Int
  f : Int
structure Row where
  w : Str
  n : Int
  rs : List Rd
def rdE (r : Rd) : EV := .tup [.str r.t, .tup (r.v.map .int), .int r.f]
def rowE (r : Row) : EV := .tup [.str r.w, .int r.n, .lst (r.rs.map rdE)]
def W0 : List Str := ["a", "b", "c", "ab", "zz", "readhere"]
def rowW (w : Str) : Str := "row" ++ L2.cutS w none (some 5)
def WORDS : List Str := W0 ++ W0.map rowW
structure RdOk (dims wide : Int) (ws : List Str) (x : Rd) : Prop where
  t : x.t ∈ ws
  l : x.v.length = dims.toNat
  b : ∀ n ∈ x.v, -wide ≤ n ∧ (n ≤ wide ∨ n ≤ 1)
  f : x.f ≠ 0 ∧ -10 ≤ x.f ∧ x.f ≤ 10
structure Good (dims many most wide : Int) (rows : List Row) : Prop where
  len : rows.length = many.toNat
  nd : (rows.map (·.w)).Nodup
  wd : ∀ r ∈ rows, r.w ∈ WORDS
  num : ∀ r ∈ rows, -99 ≤ r.n ∧ r.n ≤ 99
  tot : (((rows.map fun r => r.rs.length).sum : Nat) : Int) ≤ most
  rd : ∀ r ∈ rows, ∀ x ∈ r.rs, RdOk dims wide (rows.map (·.w)) x
/-- a row whose list of reads stands at p -/
structure RowS where
  r : Row
  p : Addr
def rowS (t : RowS) : EV := .tup [.str t.r.w, .int t.r.n, .ref t.p]
structure HpR (eh0 : Eh) (a : Addr) (eh : Eh) (L : List RowS) : Prop where
  at_ : ∀ t ∈ L, eh t.p = some (.lst (t.r.rs.map rdE))
  nd : (L.map (·.p)).Nodup
  new : ∀ t ∈ L, eh0 t.p = none ∧ t.p ≠ a
theorem cut_take {xs : List EV} {k : Nat} : cutE xs none (some (k : Int)) = xs.take k := by
  unfold cutE
  rw [HT.sIx_none, HT.sIx_nat]
  simp only [List.drop_zero, Nat.sub_zero]
  by_cases h : k ≤ xs.length
  · rw [Nat.min_eq_left h]
  · rw [Nat.min_eq_right (by omega), List.take_length, List.take_of_length_le (by omega)]
theorem fz_rd {S : Addr → Bool} {eh : Eh} {k : Nat} (r : Rd) : fz S eh (k + 2) (rdE r) = rdE r := by
  show EV.tup [fz S eh (k + 1) (.str r.t), fz S eh (k + 1) (.tup (r.v.map .int)), fz S eh (k + 1) (.int r.f)] = _
  rw [fz_tupI]; rfl
theorem fz_rds {S : Addr → Bool} {eh : Eh} {k : Nat} (rs : List Rd) : (rs.map rdE).map (fz S eh (k + 2)) = rs.map rdE := by
  rw [List.map_map]; exact List.map_congr_left fun r _ => fz_rd r
theorem fz_rows {eh0 eh : Eh} {a : Addr} {L : List RowS} (h : HpR eh0 a eh L) : fz (nw eh0) eh 9 (.lst (L.map rowS)) = .lst ((L.map (·.r)).map rowE) := by
  show EV.lst ((L.map rowS).map (fz (nw eh0) eh 8)) = _
  rw [List.map_map, List.map_map]
  congr 1
  apply List.map_congr_left
  intro t ht
  show EV.tup [fz (nw eh0) eh 7 (.str t.r.w), fz (nw eh0) eh 7 (.int t.r.n), fz (nw eh0) eh 7 (.ref t.p)] = _
  rw [fzl (h.new t ht).1 (h.at_ t ht) (fz_rds t.r.rs)]; rfl
theorem words_comp {es : Es} {q : KE} {eh : Eh} (he : 8 < es.length) : ∀ (ws : List Str) (acc : List EV), acc.length + ws.length ≤ 100 → (∀ w ∈ ws, w.length ≤ 100) → q (.lst (acc ++ ws.map fun w => EV.str (rowW w))) eh →
    compL (.nm 8) tYesE ce__law_made_rows_1 [8] (fun _ => True) q (ws.map .str) acc es eh
  | [], acc, _, _, k => compL_nil trivial (by simpa using k)
  | w :: ws, acc, hl, hw, k => by
    refine compL_cons trivial rfl ?_
    have hwl : w.length ≤ 100 := hw w (by simp)
    unfold ce__law_made_rows_1
    repeat walk_at "vm"
    refine var_i (x := .str w) (by simp [wipeE, he]) ?_
    repeat walk_at "vm"
    refine ⟨_, rfl, ?_⟩
    repeat walk_at "vm"
    refine ⟨szl (by omega), ?_⟩
    have hc : (L2.cutS w none (some 5)).length ≤ 100 := Nat.le_trans (cutS_length w none (some 5)) hwl
    refine ⟨szl (by show 3 + _ ≤ 1000; omega), ?_⟩
    refine ⟨szl (by simp at hl ⊢; omega), ?_⟩
    exact words_comp he ws (acc ++ [.str (rowW w)]) (by simp at hl ⊢; omega) (fun v hv => hw v (by simp [hv])) (by simpa [rowW] using k)
theorem rows_comp {a : Addr} {es : Es} {q : KE} {eh0 : Eh} (he : 8 < es.length) (h0 : es[0]? = some (some (.ref a))) (h0a : eh0 a ≠ none) : ∀ (ws : List Str) (L : List RowS) (s : Int × Int × Int) (b : Int) (eh : Eh), L.length + ws.length ≤ 100 → Fr eh0 a s eh → HpR eh0 a eh L → RgOk b s → b + ws.length ≤ 1000000000 → (∀ t ∈ L, t.r.rs = [] ∧ -99 ≤ t.r.n ∧ t.r.n ≤ 99) →
    (∀ (L' : List RowS) (s' : Int × Int × Int) (eh' : Eh), Fr eh0 a s' eh' → HpR eh0 a eh' L' → RgOk (b + ws.length) s' → (∀ t ∈ L', t.r.rs = [] ∧ -99 ≤ t.r.n ∧ t.r.n ≤ 99) → L'.map (·.r.w) = L.map (·.r.w) ++ ws → q (.lst (L'.map rowS)) eh') →
    compL (.nm 8) tYesE ce__law_made_rows_2 [8] (fun _ => True) q (ws.map .str) (L.map rowS) es eh
  | [], L, s, b, eh, _, fr, hp, hs, _, hn, k => compL_nil trivial (k L s eh fr hp (hs.mono (by simp)) hn (by simp))
  | w :: ws, L, s, b, eh, hl, fr, hp, hs, hb, hn, k => by
    refine compL_cons trivial rfl ?_
    simp only [List.length_cons] at hl hb
    unfold ce__law_made_rows_2
    repeat walk_at "vm"
    refine var_i (x := .str w) (by simp [wipeE, he]) ?_
    repeat walk_at "vm"
    refine var_i (x := .ref a) (by simp [wipeE, h0]) ?_
    repeat walk_at "vm"
    refine draw_fz rfl fr.2 hs (by omega) (by omega) (by omega) fun v s1 h1 h1' hs1 => ?_
    repeat walk_at "vm"
    refine ⟨szl (by simp), fun p hpn => ?_⟩
    have hpa : p ≠ a := fun z => by rw [z, eupd_same] at hpn; cases hpn
    rw [eupd_ne hpa] at hpn
    have hp0 : eh0 p = none := by
      cases e : eh0 p with
      | none => rfl
      | some o => rw [fr.1 p (by simp [e]) hpa, e] at hpn; cases hpn
    have hpL : ∀ t ∈ L, t.p ≠ p := fun t ht z => by have := hp.at_ t ht; rw [z, hpn] at this; cases this
    repeat walk_at "vm"
    refine ⟨szl (by simp), szl (by simp; omega), ?_⟩
    have e1 : L.map rowS ++ [EV.tup [.str w, .int (v - 99), .ref p]] = (L ++ [(⟨⟨w, v - 99, []⟩, p⟩ : RowS)]).map rowS := by simp [rowS]
    rw [e1]
    have hcn : ∀ c, eh0 c ≠ none → c ≠ p := fun c hc z => by rw [z] at hc; exact hc hp0
    refine rows_comp he h0 h0a ws (L ++ [(⟨⟨w, v - 99, []⟩, p⟩ : RowS)]) s1 (b + 1) (eupd (eupd eh a (some (rgO s1))) p (some (.lst []))) (by simp; omega) ⟨fun c hc hca => by rw [eupd_ne (hcn c hc), eupd_ne hca, fr.1 c hc hca], by rw [eupd_ne hpa.symm, eupd_same]⟩ ⟨fun t ht => ?_, ?_, fun t ht => ?_⟩ hs1 (by omega) (fun t ht => ?_) fun L' s' eh' f1 f2 f3 f4 f5 => k L' s' eh' f1 f2 (f3.mono (by simp; omega)) f4 (by rw [f5]; simp)
    · rcases List.mem_append.mp ht with ht | ht
      · rw [eupd_ne (hpL t ht), eupd_ne (hp.new t ht).2]; exact hp.at_ t ht
      · obtain rfl := List.mem_singleton.mp ht; rw [eupd_same]; rfl
    · simp only [List.map_append, List.map_cons, List.map_nil]
      refine List.nodup_append.mpr ⟨hp.nd, by simp, fun x hx y hy z => ?_⟩
      obtain ⟨t, ht, rfl⟩ := List.mem_map.mp hx
      simp at hy; exact hpL t ht (z.trans hy)
    · rcases List.mem_append.mp ht with ht | ht
      · exact hp.new t ht
      · obtain rfl := List.mem_singleton.mp ht; exact ⟨hp0, hpa⟩
    · rcases List.mem_append.mp ht with ht | ht
      · exact hn t ht
      · obtain rfl := List.mem_singleton.mp ht; exact ⟨rfl, by show -99 ≤ v - 99; omega, by show v - 99 ≤ 99; omega⟩

theorem sum_set {α : Type} (f : α → Nat) : ∀ (L : List α) (i : Nat) (t t' : α), L[i]? = some t → ((L.set i t').map f).sum + f t = (L.map f).sum + f t'
  | [], _, _, _, h => by simp at h
  | x :: L, 0, t, t', h => by simp at h; subst h; simp; omega
  | x :: L, i + 1, t, t', h => by
    have := sum_set f L i t t' (by simpa using h)
    simp only [List.set_cons_succ, List.map_cons, List.sum_cons]
    omega
theorem map_set_same {α β : Type} (f : α → β) : ∀ (L : List α) (i : Nat) (t t' : α), L[i]? = some t → f t' = f t → (L.set i t').map f = L.map f
  | [], _, _, _, h, _ => by simp at h
  | x :: L, 0, t, t', h, e => by simp at h; subst h; simp [e]
  | x :: L, i + 1, t, t', h, e => by simp [map_set_same f L i t t' (by simpa using h) e]
theorem mem_set {α : Type} : ∀ {L : List α} {i : Nat} {t' u : α}, u ∈ L.set i t' → u = t' ∨ ∃ j, j ≠ i ∧ L[j]? = some u
  | [], _, _, _, h => by simp at h
  | x :: L, 0, t', u, h => by
    simp at h
    rcases h with h | h
    · exact .inl h
    · obtain ⟨j, hj, e⟩ := List.getElem_of_mem h
      exact .inr ⟨j + 1, by omega, by simp [hj, e]⟩
  | x :: L, i + 1, t', u, h => by
    simp at h
    rcases h with h | h
    · exact .inr ⟨0, by omega, by simp [h]⟩
    · rcases mem_set h with h | ⟨j, hj, e⟩
      · exact .inl h
      · exact .inr ⟨j + 1, by omega, by simpa using e⟩
theorem nodup_at {α : Type} {L : List α} (h : L.Nodup) {i j : Nat} {x : α} (hi : L[i]? = some x) (hj : L[j]? = some x) : i = j := by
  obtain ⟨li, ei⟩ := List.getElem?_eq_some_iff.mp hi
  obtain ⟨lj, ej⟩ := List.getElem?_eq_some_iff.mp hj
  have pw := List.pairwise_iff_getElem.mp h
  rcases Nat.lt_trichotomy i j with hl | hl | hl
  · exact absurd (ei.trans ej.symm) (pw i j li lj hl)
  · exact hl
  · exact absurd (ej.trans ei.symm) (pw j i lj li hl)
theorem le_sum : ∀ {l : List Nat} {x : Nat}, x ∈ l → x ≤ l.sum
  | y :: l, x, h => by
    rcases List.mem_cons.mp h with rfl | h
    · simp
    · have := le_sum h
      simp; omega
theorem turn_loop {xc : XC} {d : Dn} {a : Addr} {eh0 : Eh} {dims many most wide : Int} {ws : List Str} {R : List EV} (h0a : eh0 a ≠ none) (hd0 : 0 ≤ dims) (hd1 : dims ≤ 10) (hw0 : 0 ≤ wide) (hw1 : wide ≤ 1000000) (hm0 : 0 < many) (hm1 : many.toNat = R.length) (hm2 : many.toNat = ws.length) (hm3 : many ≤ 100) :
    ∀ (T : List EV) (L : List RowS) (s : Int × Int × Int) (b : Int) (c : Nat) (z7 z8 z9 z10 z11 : Option EV) (eh : Eh), L.map rowS = R → Fr eh0 a s eh → HpR eh0 a eh L → RgOk b s → b + 40 * T.length ≤ 900000000 → (L.map fun t => t.r.rs.length).sum ≤ c → c + T.length ≤ 100 → (∀ t ∈ L, ∀ x ∈ t.r.rs, RdOk dims wide ws x) →
    (∀ (L' : List RowS) (s' : Int × Int × Int) (eh' : Eh) (z7 z8 z9 z10 z11 : Option EV), L'.map rowS = R → Fr eh0 a s' eh' → HpR eh0 a eh' L' → RgOk (b + 40 * T.length) s' → (L'.map fun t => t.r.rs.length).sum ≤ c + T.length → (∀ t ∈ L', ∀ x ∈ t.r.rs, RdOk dims wide ws x) →
      d.nx [some (.ref a), some (.int dims), some (.int many), some (.int most), some (.int wide), some (.lst (ws.map .str)), some (.lst R), z7, z8, z9, z10, z11] eh') →
    forL (.nm 7) bd__law_made_rows_3 (fun _ => True) xc d T [some (.ref a), some (.int dims), some (.int many), some (.int most), some (.int wide), some (.lst (ws.map .str)), some (.lst R), z7, z8, z9, z10, z11] eh
  | [], L, s, b, c, z7, z8, z9, z10, z11, eh, hR, fr, hp, hs, _, hc, _, hr, k => forL_nil trivial (k L s eh z7 z8 z9 z10 z11 hR fr hp (hs.mono (by simp)) (by simpa using hc) hr)
  | x :: T, L, s, b, c, z7, z8, z9, z10, z11, eh, hR, fr, hp, hs, hb, hc, hcl, hr, k => by
    refine forL_cons trivial rfl ?_
    simp only [List.length_cons] at hb hcl
    unfold bd__law_made_rows_3
    repeat walk_at "vm"
    refine draw_fz rfl fr.2 hs (by omega) (by omega) (by omega) fun v s1 h1 h1' hs1 => ?_
    have hv : v.toNat < L.length := by have := congrArg List.length hR; simp at this; omega
    have hvi : ixN R.length v = some v.toNat := by unfold ixN; rw [if_pos h1, if_pos (by omega)]
    have ht : L[v.toNat]? = some L[v.toNat] := List.getElem?_eq_getElem hv
    generalize htd : L[v.toNat] = t at ht
    have hmem : t ∈ L := List.mem_of_getElem? ht
    refine ix_i (xs := R) (by rfl) (z := rowS t) (by unfold atI; rw [hvi, ← hR]; simp [ht]) ?_
    repeat walk_at "vm"
    refine ⟨_, rfl, ?_⟩
    repeat walk_at "vm"
    refine draw_fz rfl eupd_same hs1 (by omega) (by omega) (by omega) fun v2 s2 h2 h2' hs2 => ?_
    repeat walk_at "vm"
    refine draw_fz rfl eupd_same hs2 (by omega) (by omega) (by omega) fun v3 s3 h3 h3' hs3 => ?_
    repeat walk_at "vm"
    refine ⟨szl (by simp), ?_⟩
    repeat walk_at "vm"
    refine draw_fz rfl eupd_same hs3 (by omega) (by omega) (by omega) fun v4 s4 h4 h4' hs4 => ?_
    have hz : ∃ n, atI [EV.int 1, EV.int (-1), EV.int (1 + v2), EV.int (0 - 1 - v3)] v4 = some (.int n) ∧ n ≠ 0 ∧ -10 ≤ n ∧ n ≤ 10 := by
      have : v4 = 0 ∨ v4 = 1 ∨ v4 = 2 ∨ v4 = 3 := by omega
      rcases this with rfl | rfl | rfl | rfl
      · exact ⟨1, rfl, by omega, by omega, by omega⟩
      · exact ⟨-1, rfl, by omega, by omega, by omega⟩
      · exact ⟨1 + v2, rfl, by omega, by omega, by omega⟩
      · exact ⟨0 - 1 - v3, rfl, by omega, by omega, by omega⟩
    obtain ⟨f, hz, f0⟩ := hz
    refine ix_i (by rfl) hz ?_
    dsimp only
    repeat walk_at "vm"
    have hpt := hp.new t hmem
    refine ⟨⟨t.r.rs.map rdE, by simp only [lstE]; rw [eupd_ne hpt.2, eupd_ne hpt.2, eupd_ne hpt.2, eupd_ne hpt.2, hp.at_ t hmem]⟩, ?_⟩
    repeat walk_at "vm"
    refine draw_fz rfl eupd_same hs4 (by omega) (by omega) (by omega) fun v5 s5 h5 h5' hs5 => ?_
    have hv5 : v5.toNat < ws.length := by omega
    refine ix_i (xs := ws.map .str) (by rfl) (z := .str ws[v5.toNat]) (by unfold atI ixN; rw [if_pos h5, List.length_map, if_pos (by omega)]; simp [hv5]) ?_
    repeat walk_at "vm"
    refine vector_fz rfl eupd_same hs5 (by omega) hd0 hd1 hw0 hw1 fun ns s6 n1 n2 hs6 => ?_
    repeat walk_at "vm"
    refine ⟨szl (by simp), ?_⟩
    rw [eupd_eupd, eupd_eupd, eupd_eupd, eupd_eupd, eupd_eupd]
    have hlen : t.r.rs.length ≤ c := by
      have : t.r.rs.length ≤ (L.map fun t => t.r.rs.length).sum := le_sum (List.mem_map.mpr ⟨t, hmem, rfl⟩)
      omega
    refine ⟨t.r.rs.map rdE, by rw [eupd_ne hpt.2]; exact hp.at_ t hmem, by rw [List.length_map]; exact Nat.lt_of_lt_of_le (show t.r.rs.length < 200 by omega) (by decide), ?_⟩
    have hset : (L.map (·.p))[v.toNat]? = some t.p := by simp [ht]
    let x0 : Rd := ⟨ws[v5.toNat], ns, f⟩
    let t' : RowS := ⟨⟨t.r.w, t.r.n, t.r.rs ++ [x0]⟩, t.p⟩
    have hne : ∀ u ∈ L, ∀ j, j ≠ v.toNat → L[j]? = some u → u.p ≠ t.p := fun u _ j hj e z => hj (nodup_at hp.nd (x := t.p) (by simp [e, z]) hset)
    refine turn_loop h0a hd0 hd1 hw0 hw1 hm0 hm1 hm2 hm3 T (L.set v.toNat t') s6 (b + 40) (c + 1) _ _ _ _ _ (eupd (eupd eh a (some (rgO s6))) t.p (some (.lst (t.r.rs.map rdE ++ [.tup [.str ws[v5.toNat], .tup (ns.map .int), .int f]])))) ?_ ⟨fun y hy hya => ?_, ?_⟩ ⟨fun u hu => ?_, ?_, fun u hu => ?_⟩ (hs6.mono (by omega)) (by omega) ?_ (by omega) (fun u hu y hy => ?_) fun L' s' eh' z7 z8 z9 z10 z11 g1 g2 g3 g4 g5 g6 => k L' s' eh' z7 z8 z9 z10 z11 g1 g2 g3 (g4.mono (by simp; omega)) (by simp; omega) g6
    · rw [map_set_same rowS L _ t t' ht rfl]; exact hR
    · rw [eupd_ne (fun z => by rw [z] at hy; exact hy hpt.1), eupd_ne hya]; exact fr.1 y hy hya
    · rw [eupd_ne hpt.2.symm, eupd_same]
    · rcases mem_set hu with rfl | ⟨j, hj, e⟩
      · rw [eupd_same]; simp [t', x0, rdE]
      · have hu' := List.mem_of_getElem? e
        rw [eupd_ne (hne u hu' j hj e), eupd_ne (hp.new u hu').2]; exact hp.at_ u hu'
    · rw [map_set_same (fun t : RowS => t.p) L _ t t' ht rfl]; exact hp.nd
    · rcases mem_set hu with rfl | ⟨j, hj, e⟩
      · exact hpt
      · exact hp.new u (List.mem_of_getElem? e)
    · have := sum_set (fun t : RowS => t.r.rs.length) L _ t t' ht
      simp [t'] at this ⊢
      omega
    · rcases mem_set hu with rfl | ⟨j, hj, e⟩
      · rcases List.mem_append.mp hy with hy | hy
        · exact hr t hmem y hy
        · obtain rfl := List.mem_singleton.mp hy
          exact ⟨List.getElem_mem hv5, n1, n2, f0⟩
      · exact hr u (List.mem_of_getElem? e) y hy

theorem take_perm {ts : List Str} (h : ts.Perm W0) (m : Nat) : (ts.take m).Nodup ∧ ∀ w ∈ ts.take m, w ∈ W0 :=
  ⟨(h.nodup_iff.mpr (by decide +kernel)).sublist (List.take_sublist _ _), fun w hw => h.mem_iff.mp (List.mem_of_mem_take hw)⟩
theorem rowW_inj : ∀ v ∈ W0, ∀ w ∈ W0, rowW v = rowW w → v = w := by decide +kernel
theorem W0_len : ∀ w ∈ W0, w.length ≤ 100 := by decide +kernel
theorem row_words {ws : List Str} (h : ws.Nodup) (hm : ∀ w ∈ ws, w ∈ W0) : (ws.map rowW).Nodup := by
  rw [List.nodup_iff_pairwise_ne, List.pairwise_map] at *
  exact h.imp_of_mem fun {v w} hv hw hn e => hn (rowW_inj v (hm v hv) w (hm w hw) e)
theorem rowS_key : ∀ (A B : List RowS), A.map rowS = B.map rowS → A.map (·.r.w) = B.map (·.r.w) ∧ A.map (·.r.n) = B.map (·.r.n)
  | [], [], _ => ⟨rfl, rfl⟩
  | [], _ :: _, e => by simp at e
  | _ :: _, [], e => by simp at e
  | x :: A, y :: B, e => by
    simp only [List.map_cons, List.cons.injEq] at e ⊢
    obtain ⟨e1, e2⟩ := rowS_key A B e.2
    have e0 := e.1
    simp [rowS] at e0
    exact ⟨⟨e0.1, e1⟩, e0.2.1, e2⟩
/-- the made rows, their draws counted -/
theorem made_fz {S : Addr → Bool} {xc : XC} {a : Addr} {s : Int × Int × Int} {dims many most wide b : Int} {eh : Eh} {q : KE} (hS : S = nw eh) (h : eh a = some (rgO s)) (hs : RgOk b s) (hb : b + 2000 ≤ 900000000) (hd0 : 0 ≤ dims) (hd1 : dims ≤ 10) (hm0 : 1 ≤ many) (hm1 : many ≤ 6) (ho0 : 0 ≤ most) (ho1 : most ≤ 30) (hw0 : 0 ≤ wide) (hw1 : wide ≤ 1000000)
    (k : ∀ (rows : List Row) (s' : Int × Int × Int), Good dims many most wide rows → RgOk (b + 2000) s' → q (.lst (rows.map rowE)) (eupd eh a (some (rgO s')))) :
    ([EV.ref a, .int dims, .int many, .int most, .int wide] ++ []).length = 5 ∧ FZ S fn__law_made_rows xc ([EV.ref a, .int dims, .int many, .int most, .int wide] ++ []) eh q := by
  refine ⟨rfl, ?_⟩
  subst hS
  have ha : eh a ≠ none := by rw [h]; simp
  unfold FZ fn__law_made_rows ms__law_made_rows
  repeat walk_at "vm"
  refine ⟨szl (by simp), ?_⟩
  repeat walk_at "vm"
  refine mixed_fz (ws := W0) rfl h hs (by omega) (by decide) fun ts s1 hp hs1 => ?_
  repeat walk_at "vm"
  refine ⟨_, rfl, ?_⟩
  refine ⟨ts.map .str, rfl, ?_⟩
  have hmany : many = ((many.toNat : Nat) : Int) := by omega
  rw [hmany, cut_take, ← List.map_take]
  obtain ⟨nd1, mem1⟩ := take_perm hp many.toNat
  have hlen1 : (ts.take many.toNat).length = many.toNat := by
    rw [List.length_take, hp.length_eq]
    show min many.toNat 6 = _
    omega
  generalize ts.take many.toNat = ws at *
  rw [← hmany]
  dsimp only
  repeat walk_at "vm"
  refine draw_fz rfl eupd_same hs1 (by omega) (by omega) (by omega) fun v s2 _ _ hs2 => ?_
  rw [eupd_eupd]
  -- the names, perhaps with "row" ahead
  have main : ∀ (us : List Str) (z8 : Option EV), us.length = many.toNat → us.Nodup → (∀ w ∈ us, w ∈ WORDS) → (sSeq (sSet 6 (mComp (iAny (mVar 5)) (.nm 8) tYesE ce__law_made_rows_2 [8]))
      (sSeq (sFor (iRange1 (aCons (mFz 9 (mCall fn__law_draw 2 [] (aCons (mVar 0) (aCons (mOp oAdd (mVar 3) (mC (.int 1))) aNil)))) aNil)) (.nm 7) bd__law_made_rows_3) (sRet (mVar 6)))) xc
      { nx := fun _ eh_1 => q (fz (nw eh) eh_1 9 .non) (drE (nw eh) eh_1), rt := fun x eh1 => q (fz (nw eh) eh1 9 x) (drE (nw eh) eh1) }
      [some (.ref a), some (.int dims), some (.int many), some (.int most), some (.int wide), some (.lst (us.map .str)), none, none, z8, none, none, none] (eupd eh a (some (rgO s2))) := by
    intro us z8 hul hnd hmem
    repeat walk_at "vm"
    refine ⟨_, _, rfl, ?_⟩
    refine rows_comp (eh0 := eh) (by simp) rfl ha us [] s2 (b + 101) _ (by simp; omega) .one ⟨by simp, by simp, by simp⟩ (hs2.mono (by omega)) (by omega) (by simp) fun L s3 eh3 fr3 hp3 hs3 hn3 hw3 => ?_
    dsimp only
    repeat walk_at "vm"
    refine draw_fz rfl fr3.2 hs3 (by omega) (by omega) (by omega) fun v4 s4 h4 h4' hs4 => ?_
    repeat walk_at "vm"
    refine ⟨_, rfl, by omega, ?_⟩
    have hwL : L.map (·.r.w) = us := by simpa using hw3
    have hLl : L.length = us.length := by rw [← hwL]; simp
    refine turn_loop (dims := dims) (many := many) (most := most) (wide := wide) (eh0 := eh) (c := 0) (b := b + 200) (ws := us) (R := L.map rowS) ha hd0 hd1 hw0 hw1 (by omega) (by simp; omega) (by omega) (by omega) ((List.range v4.toNat).map fun (i : Nat) => EV.int (i : Int)) L s4 none z8 none none none _ rfl (fr3.trans .one) ⟨fun t ht => ?_, hp3.nd, hp3.new⟩ (hs4.mono (by omega)) (by simp; omega) ?_ (by simp; omega) (fun t ht x hx => ?_) fun L' s' eh' z7 z8 z9 z10 z11 hR fr' hp' hs' hc' hr' => ?_
    · rw [eupd_ne (hp3.new t ht).2]; exact hp3.at_ t ht
    · have : ∀ l : List RowS, (∀ t ∈ l, t.r.rs = []) → (l.map fun t => t.r.rs.length).sum = 0 := by
        intro l hl
        induction l with
        | nil => rfl
        | cons y l ih => simp [hl y (by simp), ih fun t ht => hl t (by simp [ht])]
      rw [this L fun t ht => (hn3 t ht).1]; exact Nat.le_refl 0
    · rw [(hn3 t ht).1] at hx; cases hx
    · repeat walk_at "vm"
      dsimp only
      rw [fr'.dr ha, ← hR, fz_rows hp']
      obtain ⟨ew, en⟩ := rowS_key L' L hR
      have ew' : (L'.map (·.r)).map (·.w) = us := by rw [List.map_map, ← hwL, ← ew]; rfl
      refine k (L'.map (·.r)) s' ⟨?_, by rw [ew']; exact hnd, fun r hr => ?_, fun r hr => ?_, ?_, fun r hr x hx => ?_⟩ (hs'.mono (by simp; omega))
      · have := congrArg List.length ew'; simp at this ⊢; omega
      · exact hmem r.w (by rw [← ew']; exact List.mem_map.mpr ⟨r, hr, rfl⟩)
      · obtain ⟨t, ht, rfl⟩ := List.mem_map.mp hr
        have : t.r.n ∈ L.map (·.r.n) := by rw [← en]; exact List.mem_map.mpr ⟨t, ht, rfl⟩
        obtain ⟨u, hu, e⟩ := List.mem_map.mp this
        have := (hn3 u hu).2
        omega
      · rw [List.map_map]
        have : (L'.map fun t => t.r.rs.length).sum ≤ 0 + v4.toNat := by simpa using hc'
        show (((L'.map fun t => t.r.rs.length).sum : Nat) : Int) ≤ most
        omega
      · obtain ⟨t, ht, rfl⟩ := List.mem_map.mp hr
        rw [ew']; exact hr' t ht x hx
  repeat walk_at "vm"
  refine cD_i (fun _ => ?_) (fun _ => ?_)
  · repeat walk_at "vm"
    refine ⟨_, _, rfl, ?_⟩
    refine words_comp (by simp) ws [] (by simp; omega) (fun w hw => W0_len w (mem1 w hw)) ?_
    have e : ([] ++ ws.map fun w => EV.str (rowW w)) = (ws.map rowW).map .str := by simp
    rw [e]
    refine main (ws.map rowW) none (by simpa using hlen1) (row_words nd1 mem1) fun w hw => ?_
    obtain ⟨u, hu, rfl⟩ := List.mem_map.mp hw
    exact List.mem_append_right _ (List.mem_map.mpr ⟨u, mem1 u hu, rfl⟩)
  · repeat walk_at "vm"
    exact main ws none hlen1 nd1 fun w hw => List.mem_append_left _ (mem1 w hw)

/-! ### the source made -/
theorem rng_loop {xc : XC} {d : Dn} {z0 : Option EV} : ∀ (ns : List Int) (x y : Int) (m : Nat) (z3 z4 : Option EV) (eh : Eh), m + ns.length ≤ 63 → 0 ≤ x → x < 2 ^ (200 * m) → 0 ≤ y → y < 2 ^ 62 → (∀ n ∈ ns, Builtin.Int.intBits n ≤ 1048576) →
    (∀ (x' y' : Int) (z3 z4 : Option EV), 0 ≤ x' → 0 ≤ y' → y' < 2 ^ 62 → d.nx [z0, some (.int x'), some (.int y'), z3, z4] eh) →
    forL (.nm 3) bd__law_rng_1 (fun _ => True) xc d (ns.map .int) [z0, some (.int x), some (.int y), z3, z4] eh
  | [], x, y, m, z3, z4, eh, _, hx, _, hy, hy1, _, k => forL_nil trivial (k x y z3 z4 hx hy hy1)
  | n :: ns, x, y, m, z3, z4, eh, hm, hx, hx1, hy, hy1, hb, k => by
    refine forL_cons trivial rfl ?_
    simp only [List.length_cons] at hm
    unfold bd__law_rng_1
    repeat walk_at "vm"
    generalize hf : (if n < 0 then -n else n) = f
    have hf0 : 0 ≤ f := by rw [← hf]; split <;> omega
    have tail : ∀ x', 0 ≤ x' → x' < 2 ^ (200 * (m + 1)) → ∀ eh', eh' = eh → (sSet 2 (mOp oMod (mCB bInt (aCons (mOp oAdd (mOp oAdd (mOp oMul (mVar 2) (mC (.int 1000003))) (mOp oMod (mCB bInt (aCons (mVar 3) aNil)) (mC (.int 2305843009213693921)))) (mC (.int 7))) aNil)) (mC (.int 2305843009213693951)))) xc
        { d with nx := fun es1 eh1 => forL (.nm 3) bd__law_rng_1 (fun _ => True) xc d (ns.map .int) es1 eh1, ct := fun es1 eh1 => forL (.nm 3) bd__law_rng_1 (fun _ => True) xc d (ns.map .int) es1 eh1, bk := d.nx } [z0, some (.int x'), some (.int y), some (.int n), some (.int f)] eh' := by
      intro x' hx' hx1' eh' he
      subst he
      repeat walk_at "vm"
      refine mul_i (.inl (.inr (by constructor <;> decide))) ?_
      repeat walk_at "vm"
      refine mod_i (by decide) ?_
      repeat walk_at "vm"
      refine mod_i (by decide) ?_
      dsimp only
      exact rng_loop ns x' _ (m + 1) _ _ _ (by omega) hx' hx1' (Int.emod_nonneg _ (by decide)) (Int.lt_trans (Int.emod_lt_of_pos _ (by decide)) (by decide)) (fun i hi => hb i (by simp [hi])) k
    refine pow_i (by decide) ?_
    repeat walk_at "vm"
    refine cD_i (fun hfar => ?_) (fun hfar => ?_)
    · repeat walk_at "vm"
      refine pow_i (by decide) ?_
      refine mul_i (.inr ?_) ?_
      · have h1 : Builtin.Int.intBits x ≤ 200 * m := bits_of (by
          have : ((x.natAbs : Nat) : Int) < ((2 ^ (200 * m) : Nat) : Int) := by
            rw [Int.natCast_pow]; rw [Int.natAbs_of_nonneg hx]; exact hx1
          exact Int.ofNat_lt.mp this)
        have h2 : Builtin.Int.intBits ((10 : Int) ^ (60 : Int).toNat) ≤ 200 := by decide +kernel
        omega
      repeat walk_at "vm"
      refine pow_i (by decide) ?_
      refine mod_i (by decide +kernel) ?_
      repeat walk_at "vm"
      dsimp only
      repeat walk_at "vm"
      have e60 : (10 : Int) ^ (60 : Int).toNat < 2 ^ 200 - 1 := by decide +kernel
      have p60 : (0 : Int) < (10 : Int) ^ (60 : Int).toNat := by decide +kernel
      generalize (10 : Int) ^ (60 : Int).toNat = c at *
      have r0 := Int.emod_nonneg f (b := c) (by omega)
      have r1 := Int.emod_lt_of_pos f p60
      refine tail _ (Int.add_nonneg (Int.mul_nonneg hx (by omega)) r0) ?_ _ rfl
      have e1 : (2 : Int) ^ (200 * (m + 1)) = 2 ^ (200 * m) * 2 ^ 200 := by rw [Nat.mul_add, Int.pow_add]
      rw [e1]
      have h3 : x * c ≤ (2 ^ (200 * m) - 1) * c := Int.mul_le_mul_of_nonneg_right (by omega) (by omega)
      have h4 : (2 ^ (200 * m) - 1) * c + c = 2 ^ (200 * m) * c := by rw [Int.sub_mul]; omega
      have h5 : (2 : Int) ^ (200 * m) * c ≤ 2 ^ (200 * m) * 2 ^ 200 := Int.mul_le_mul_of_nonneg_left (by omega) (Int.le_of_lt (Int.pow_pos (by decide)))
      omega
    · repeat walk_at "vm"
      dsimp only
      repeat walk_at "vm"
      refine tail x hx (Int.lt_of_lt_of_le hx1 ?_) _ rfl
      have e1 : (2 : Int) ^ (200 * (m + 1)) = 2 ^ (200 * m) * 2 ^ 200 := by rw [Nat.mul_add, Int.pow_add]
      rw [e1]
      have h5 : (2 : Int) ^ (200 * m) * 1 ≤ 2 ^ (200 * m) * 2 ^ 200 := Int.mul_le_mul_of_nonneg_left (by decide) (Int.le_of_lt (Int.pow_pos (by decide)))
      omega
theorem rng_ok {xc : XC} {ns : List Int} {eh : Eh} {q : KE} (hl : ns.length ≤ 63) (hb : ∀ n ∈ ns, Builtin.Int.intBits n ≤ 1048576) (k : ∀ p s, eh p = none → RgOk 0 s → q (.ref p) (eupd eh p (some (rgO s)))) : fn__law_rng xc [.scr ns] eh q := by
  unfold fn__law_rng ms__law_rng
  repeat walk_at "vm"
  refine ⟨szl (by simp), ?_⟩
  refine ⟨_, rfl, ?_⟩
  repeat walk_at "vm"
  refine ⟨_, rfl, ?_⟩
  refine ⟨ns.map .int, rfl, ?_⟩
  have e : cutE (ns.map EV.int) none (some 63) = ns.map .int := by
    have := cut_take (xs := ns.map EV.int) (k := 63)
    exact this.trans (List.take_of_length_le (by simpa using hl))
  rw [e]
  refine ⟨_, _, rfl, ?_⟩
  refine rng_loop ns 0 88675123 0 _ _ _ (by omega) (by decide) (by decide) (by decide) (by decide) hb fun x y z3 z4 hx hy hy1 => ?_
  dsimp only
  repeat walk_at "vm"
  refine ⟨szl (by simp), fun p hp => ?_⟩
  exact k p (x, y, 0) hp ⟨hx, hy, hy1, Int.le_refl _, Int.le_refl _⟩

/-! ### names, reads -/
def letters : Str := "abcdefghijklmnopqrstuvwxyz"
def inL (c : Nat) : Bool := !(Builtin.Str.occurrences letters ⟨#[c]⟩ 0 letters.length 1).isEmpty
def nameOk (w : Str) : Bool := decide (1 ≤ w.length) && (decide (w.length ≤ 8) && w.cps.toList.all inL)
theorem boolsE_map : ∀ bs : List Bool, boolsE (bs.map .bl) = some bs
  | [] => rfl
  | b :: bs => by simp [boolsE, boolsE_map bs]
theorem all_i {x : EV} {eh : Eh} {q : KE} {bs : List Bool} (e : lstE eh x = some (bs.map .bl)) (h : q (.bl (bs.all id)) eh) : bAll [x] eh q := ⟨_, _, e, boolsE_map bs, h⟩
theorem name_comp {es : Es} {q : KE} {eh : Eh} (he : 1 < es.length) : ∀ (cs : List Nat) (bs : List Bool), bs.length + cs.length ≤ 100 → q (.lst ((bs ++ cs.map inL).map .bl)) eh →
    compL (.nm 1) tYesE ce_is_name_1 [1] (fun _ => True) q (cs.map fun c => EV.str ⟨#[c]⟩) (bs.map .bl) es eh
  | [], bs, _, k => compL_nil trivial (by simpa using k)
  | c :: cs, bs, hl, k => by
    simp only [List.length_cons] at hl
    refine compL_cons trivial rfl ?_
    unfold ce_is_name_1
    repeat walk_at "vm"
    refine var_i (x := .str ⟨#[c]⟩) (by simp [wipeE, he]) ?_
    repeat walk_at "vm"
    show (List.map EV.bl bs).length < sizeLine ∧ compL (.nm 1) tYesE ce_is_name_1 [1] (fun _ => True) q (cs.map fun c => EV.str ⟨#[c]⟩) (bs.map .bl ++ [.bl (false ^^ inL c)]) es eh
    refine ⟨Nat.lt_of_lt_of_le (by rw [List.length_map]; exact (show bs.length < 200 by omega)) (by decide), ?_⟩
    have e : bs.map EV.bl ++ [.bl (false ^^ inL c)] = (bs ++ [inL c]).map .bl := by simp
    rw [e]
    exact name_comp he cs (bs ++ [inL c]) (by simp; omega) (by simpa using k)
theorem name_ok {xc : XC} {w : Str} {eh : Eh} {q : KE} (h : nameOk w = true) (k : q (.bl true) eh) : fn_is_name xc [.str w] eh q := by
  unfold nameOk at h
  simp only [Bool.and_eq_true, decide_eq_true_eq] at h
  obtain ⟨h1, h2, h3⟩ := h
  unfold fn_is_name ms_is_name
  repeat walk_at "vm"
  refine lenS_i (szl (by omega)) ?_
  repeat walk_at "vm"
  refine cD_i (fun _ => ?_) (fun z => absurd (show (1 : Int) ≤ (w.length : Int) by omega) z)
  repeat walk_at "vm"
  refine cD_i (fun _ => ?_) (fun z => absurd (show (w.length : Int) ≤ 8 by omega) z)
  repeat walk_at "vm"
  refine ⟨_, _, rfl, ?_⟩
  have hcl : w.cps.toList.length ≤ 100 := by
    have : w.cps.toList.length = w.length := by rw [Array.length_toList]; rfl
    omega
  refine name_comp (by simp) w.cps.toList [] (by simpa using hcl) ?_
  repeat walk_at "vm"
  refine all_i (bs := [] ++ w.cps.toList.map inL) rfl ?_
  have e : ([] ++ w.cps.toList.map inL).all id = true := by simpa using h3
  rw [e]; exact k
theorem name_fz {S : Addr → Bool} {xc : XC} {w : Str} {eh : Eh} {q : KE} (hS : S = nw eh) (h : nameOk w = true) (k : q (.bl true) eh) : ([EV.str w] ++ []).length = 1 ∧ FZ S fn_is_name xc ([EV.str w] ++ []) eh q :=
  ⟨rfl, name_ok h (by rw [hS, drE_self]; exact k)⟩
structure RdFit (dims : Int) (x : Rd) : Prop where
  t : nameOk x.t = true
  l : (x.v.length : Int) = dims
  f : x.f ≠ 0
theorem read_fz {S : Addr → Bool} {xc : XC} {x : Rd} {dims : Int} {eh : Eh} {q : KE} (hS : S = nw eh) (h : RdFit dims x) (k : q (.bl true) eh) : ([rdE x, EV.int dims] ++ []).length = 2 ∧ FZ S fn_is_read xc ([rdE x, EV.int dims] ++ []) eh q := by
  refine ⟨rfl, ?_⟩
  subst hS
  unfold FZ fn_is_read ms_is_read
  repeat walk_at "vm"
  refine ⟨_, rfl, ?_⟩
  repeat walk_at "vm"
  refine name_fz rfl h.t ?_
  repeat walk_at "vm"
  refine len_i (xs := x.v.map .int) rfl ?_
  repeat walk_at "vm"
  refine cD_i (fun _ => ?_) (fun z => absurd (by rw [List.length_map]; exact h.l) z)
  repeat walk_at "vm"
  have e : (!decide (x.f = 0)) = true := by simp [h.f]
  rw [e]
  dsimp only
  rw [drE_self]
  exact k

/-! ### systems checked -/
theorem inD_i {x y : EV} {eh : Eh} {q : KE} {kvs : List (Key × EV)} {k : Key} (hy : ∀ z, y ≠ .str z) (e : dctE eh y = some kvs) (ek : keyE x = some k) (h : q (.bl (getK kvs k).isSome) eh) : cIn false x y eh q := by
  unfold cIn
  split
  · exact absurd rfl (hy _)
  · exact .inr ⟨kvs, k, e, ek, by simpa using h⟩
theorem ninD_i {x y : EV} {eh : Eh} {q : KE} {kvs : List (Key × EV)} {k : Key} (hy : ∀ z, y ≠ .str z) (e : dctE eh y = some kvs) (ek : keyE x = some k) (h : q (.bl (!(getK kvs k).isSome)) eh) : cIn true x y eh q := by
  unfold cIn
  split
  · exact absurd rfl (hy _)
  · exact .inr ⟨kvs, k, e, ek, by simpa using h⟩
def foundE (ws : List Str) : List (Key × EV) := ws.map fun w => (.inr w, .bl true)
theorem getK_found : ∀ (ws : List Str) (w : Str), (getK (foundE ws) (.inr w)).isSome = decide (w ∈ ws)
  | [], w => rfl
  | v :: ws, w => by
    show (if (Sum.inr v : Key) = .inr w then some (EV.bl true) else getK (foundE ws) (.inr w)).isSome = _
    by_cases h : v = w
    · subst h; simp
    · have h' : w ≠ v := fun z => h z.symm
      rw [if_neg (fun z => h (Sum.inr.inj z)), getK_found ws w]; simp [h']
theorem put_found {ws : List Str} {w : Str} (h : w ∉ ws) : putKE (foundE ws) (.inr w) (.bl true) = foundE (ws ++ [w]) := by
  unfold putKE
  rw [if_neg]
  · simp [foundE]
  · simp only [foundE, List.any_map, List.any_eq_true, Function.comp, decide_eq_true_eq, not_exists, not_and]
    intro v hv e
    exact h (Sum.inr.inj e ▸ hv)
theorem reads_comp {es : Es} {q : KE} {eh : Eh} {dims : Int} (he : 13 < es.length) (h0 : es[0]? = some (some (.int dims))) : ∀ (rs : List Rd) (bs : List Bool), bs.length + rs.length ≤ 100 → (∀ x ∈ rs, RdFit dims x) → q (.lst ((bs ++ rs.map fun _ => true).map .bl)) eh →
    compL (.nm 13) tYesE ce_check_system_1 [13] (fun _ => True) q (rs.map rdE) (bs.map .bl) es eh
  | [], bs, _, _, k => compL_nil trivial (by simpa using k)
  | x :: rs, bs, hl, hx, k => by
    simp only [List.length_cons] at hl
    refine compL_cons trivial rfl ?_
    unfold ce_check_system_1
    repeat walk_at "vm"
    refine var_i (x := rdE x) (by simp [wipeE, he]) ?_
    repeat walk_at "vm"
    refine var_i (x := .int dims) (by simp [wipeE, h0]) ?_
    repeat walk_at "vm"
    refine read_fz rfl (hx x (by simp)) ?_
    refine ⟨Nat.lt_of_lt_of_le (by rw [List.length_map]; exact (show bs.length < 200 by omega)) (by decide), ?_⟩
    have e : bs.map EV.bl ++ [.bl true] = (bs ++ [true]).map .bl := by simp
    rw [e]
    exact reads_comp he h0 rs (bs ++ [true]) (by simp; omega) (fun y hy => hx y (by simp [hy])) (by simpa using k)
theorem all_true {α : Type} : ∀ rs : List α, (([] : List Bool) ++ rs.map fun _ => true).all id = true
  | [] => rfl
  | _ :: rs => by simpa using all_true rs
structure RowFit (dims : Int) (r : Row) : Prop where
  w : nameOk r.w = true
  rd : ∀ x ∈ r.rs, RdFit dims x
theorem check1 {xc : XC} {d : Dn} {p : Addr} {dims md : Int} {T : EV} {ok : Eh → Prop} (hok : ∀ eh v, ok eh → ok (eupd eh p v)) : ∀ (rows : List Row) (g : Nat → Int) (ws : List Str) (many : Nat) (z5 z6 z7 z8 z9 z10 z11 z12 z13 : Option EV) (eh : Eh), ok eh → (∀ r ∈ rows, RowFit dims r) → (ws ++ rows.map (·.w)).Nodup → ws.length + rows.length ≤ 100 → many + (rows.map fun r => r.rs.length).sum ≤ 12 → eh p = some (.dct (foundE ws)) →
    (∀ (many : Int) (z5 z6 z7 z8 z9 z10 z11 z12 z13 : Option EV), d.nx [some (.int dims), some T, some (.int md), some (.ref p), some (.int many), z5, z6, z7, z8, z9, z10, z11, z12, z13] (eupd eh p (some (.dct (foundE (ws ++ rows.map (·.w))))))) →
    forL (.tp [.nm 5, .tp [.nm 6, .nm 7, .nm 8]]) bd_check_system_2 ok xc d ((rows.map rowE).mapIdx fun i x => .tup [.int (g i), x]) [some (.int dims), some T, some (.int md), some (.ref p), some (.int many), z5, z6, z7, z8, z9, z10, z11, z12, z13] eh
  | [], g, ws, many, z5, z6, z7, z8, z9, z10, z11, z12, z13, eh, ho, _, _, _, _, hp, k => by
    refine forL_nil ho ?_
    have := k many z5 z6 z7 z8 z9 z10 z11 z12 z13
    simp only [List.map_nil, List.append_nil] at this
    rwa [eupd_self hp] at this
  | r :: rows, g, ws, many, z5, z6, z7, z8, z9, z10, z11, z12, z13, eh, ho, hf, hn, hl, hm, hp, k => by
    simp only [List.map_cons, List.sum_cons, List.length_cons] at hm hl
    rw [List.map_cons, List.mapIdx_cons]
    refine forL_cons ho rfl ?_
    have hr := hf r (by simp)
    have hnw : r.w ∉ ws := fun z => by
      rw [List.map_cons] at hn
      exact (List.nodup_append.mp hn).2.2 r.w z r.w (by simp) rfl
    unfold bd_check_system_2
    repeat walk_at "vm"
    refine len_i (xs := r.rs.map rdE) rfl ?_
    rw [List.length_map]
    repeat walk_at "vm"
    dsimp only
    repeat walk_at "vm"
    refine name_fz rfl hr.w ?_
    repeat walk_at "vm"
    refine cF_i ?_
    repeat walk_at "vm"
    refine inD_i (kvs := foundE ws) (by simp) (by simp only [dctE, hp]) rfl ?_
    rw [getK_found]
    repeat walk_at "vm"
    refine cD_i (fun z => absurd z hnw) (fun _ => ?_)
    repeat walk_at "vm"
    refine ⟨_, rfl, ?_⟩
    refine cD_i (fun z => absurd z (show ¬ (12 : Int) < (many : Int) + (r.rs.length : Int) by omega)) (fun _ => ?_)
    repeat walk_at "vm"
    refine ⟨_, _, rfl, ?_⟩
    refine reads_comp (dims := dims) (by simp) rfl r.rs [] (by simp; omega) hr.rd ?_
    repeat walk_at "vm"
    refine all_i (bs := [] ++ r.rs.map fun _ => true) rfl ?_
    rw [all_true]
    refine ⟨_, rfl, ?_⟩
    refine cF_i ?_
    repeat walk_at "vm"
    dsimp only
    repeat walk_at "vm"
    refine ⟨_, _, _, rfl, hp, rfl, ?_, ?_⟩
    · rw [show (foundE ws).length = ws.length by simp [foundE]]
      exact Nat.lt_of_lt_of_le (show ws.length < 200 by omega) (by decide)
    rw [put_found hnw]
    refine check1 hok rows (fun i => g (i + 1)) (ws ++ [r.w]) (many + r.rs.length) _ _ _ _ _ _ _ _ _ _ (hok _ _ ho) (fun y hy => hf y (by simp [hy])) (by simpa using hn) (by simp; omega) (by omega) eupd_same fun m z5 z6 z7 z8 z9 z10 z11 z12 z13 => ?_
    rw [eupd_eupd]
    simpa using k m z5 z6 z7 z8 z9 z10 z11 z12 z13

theorem found_comp {es : Es} {q : KE} {eh : Eh} {p : Addr} {ws : List Str} (he : 12 < es.length) (h3 : es[3]? = some (some (.ref p))) (hp : eh p = some (.dct (foundE ws))) : ∀ (rs : List Rd) (bs : List Bool), bs.length + rs.length ≤ 100 → (∀ x ∈ rs, x.t ∈ ws) → q (.lst ((bs ++ rs.map fun _ => true).map .bl)) eh →
    compL (.tp [.nm 10, .nm 11, .nm 12]) tYesE ce_check_system_3 [10, 11, 12] (fun _ => True) q (rs.map rdE) (bs.map .bl) es eh
  | [], bs, _, _, k => compL_nil trivial (by simpa using k)
  | x :: rs, bs, hl, hx, k => by
    simp only [List.length_cons] at hl
    refine compL_cons trivial rfl ?_
    unfold ce_check_system_3
    repeat walk_at "vm"
    refine var_i (x := .str x.t) (by simp [wipeE, Nat.lt_trans (show 10 < 12 by decide) he]) ?_
    refine var_i (x := .ref p) (by simp [wipeE, h3]) ?_
    refine inD_i (kvs := foundE ws) (by simp) (by simp only [dctE, hp]) rfl ?_
    rw [getK_found]
    have ht : decide (x.t ∈ ws) = true := by simp [hx x (by simp)]
    rw [ht]
    refine ⟨Nat.lt_of_lt_of_le (by rw [List.length_map]; exact (show bs.length < 200 by omega)) (by decide), ?_⟩
    have e : bs.map EV.bl ++ [.bl true] = (bs ++ [true]).map .bl := by simp
    rw [e]
    exact found_comp he h3 hp rs (bs ++ [true]) (by simp; omega) (fun y hy => hx y (by simp [hy])) (by simpa using k)
theorem check2 {xc : XC} {d : Dn} {p : Addr} {dims md many : Int} {T : EV} {ok : Eh → Prop} {ws : List Str} {eh : Eh} (ho : ok eh) (hp : eh p = some (.dct (foundE ws))) : ∀ (rows : List Row) (g : Nat → Int) (z5 z6 z7 z8 z9 z10 z11 z12 z13 : Option EV), (∀ r ∈ rows, r.rs.length ≤ 90 ∧ ∀ x ∈ r.rs, x.t ∈ ws) →
    (∀ (z5 z6 z7 z8 z9 z10 z11 z12 z13 : Option EV), d.nx [some (.int dims), some T, some (.int md), some (.ref p), some (.int many), z5, z6, z7, z8, z9, z10, z11, z12, z13] eh) →
    forL (.tp [.nm 5, .tp [.nm 6, .nm 7, .nm 8]]) bd_check_system_4 ok xc d ((rows.map rowE).mapIdx fun i x => .tup [.int (g i), x]) [some (.int dims), some T, some (.int md), some (.ref p), some (.int many), z5, z6, z7, z8, z9, z10, z11, z12, z13] eh
  | [], g, z5, z6, z7, z8, z9, z10, z11, z12, z13, _, k => forL_nil ho (k z5 z6 z7 z8 z9 z10 z11 z12 z13)
  | r :: rows, g, z5, z6, z7, z8, z9, z10, z11, z12, z13, hf, k => by
    rw [List.map_cons, List.mapIdx_cons]
    refine forL_cons ho rfl ?_
    obtain ⟨hl, hr⟩ := hf r (by simp)
    unfold bd_check_system_4
    repeat walk_at "vm"
    refine ⟨_, _, rfl, ?_⟩
    refine found_comp (ws := ws) (by simp) rfl hp r.rs [] (by simp; omega) hr ?_
    repeat walk_at "vm"
    refine all_i (bs := [] ++ r.rs.map fun _ => true) rfl ?_
    rw [all_true]
    refine ⟨_, rfl, ?_⟩
    refine cF_i ?_
    repeat walk_at "vm"
    exact check2 ho hp rows (fun i => g (i + 1)) _ _ _ _ _ _ _ _ _ (fun y hy => hf y (by simp [hy])) k
structure SysFit (dims md : Int) (rows : List Row) : Prop where
  d : 1 ≤ dims ∧ dims ≤ 3
  l : 1 ≤ rows.length ∧ rows.length ≤ 6
  nd : (rows.map (·.w)).Nodup
  r : ∀ r ∈ rows, RowFit dims r
  t : (rows.map fun r => r.rs.length).sum ≤ 12
  m : 2 ≤ md
  tg : ∀ r ∈ rows, ∀ x ∈ r.rs, x.t ∈ rows.map (·.w)
theorem check_fz {S : Addr → Bool} {xc : XC} {dims md : Int} {rows : List Row} {eh : Eh} {q : KE} (hS : S = nw eh) (h : SysFit dims md rows) (k : q .non eh) : ([EV.int dims, .lst (rows.map rowE), .int md] ++ []).length = 3 ∧ FZ S fn_check_system xc ([EV.int dims, .lst (rows.map rowE), .int md] ++ []) eh q := by
  refine ⟨rfl, ?_⟩
  subst hS
  obtain ⟨d1, d2⟩ := h.d
  obtain ⟨l1, l2⟩ := h.l
  unfold FZ fn_check_system ms_check_system
  repeat walk_at "vm"
  refine cD_i (fun _ => ?_) (fun z => absurd d1 z)
  repeat walk_at "vm"
  have e2 : (!decide (dims ≤ 3)) = false := by simp [d2]
  rw [e2]
  repeat walk_at "vm"
  refine len_i (xs := rows.map rowE) rfl ?_
  rw [List.length_map]
  repeat walk_at "vm"
  refine cD_i (fun _ => ?_) (fun z => absurd (show (1 : Int) ≤ (rows.length : Int) by omega) z)
  repeat walk_at "vm"
  have e3 : (!decide ((rows.length : Int) ≤ 6)) = false := by simp; omega
  rw [e3]
  repeat walk_at "vm"
  intro p hp
  repeat walk_at "vm"
  refine ⟨szl (by simp), _, rfl, ?_⟩
  repeat walk_at "vm"
  refine ⟨_, _, _, rfl, rfl, ?_⟩
  refine check1 (md := md) (fun _ _ _ => trivial) rows (fun i => (i : Int)) [] 0 _ _ _ _ _ _ _ _ _ _ trivial h.r (by simpa using h.nd) (by simp; omega) (by simpa using h.t) eupd_same fun many z5 z6 z7 z8 z9 z10 z11 z12 z13 => ?_
  rw [eupd_eupd]
  repeat walk_at "vm"
  refine ⟨_, _, _, rfl, rfl, ?_⟩
  refine check2 (ws := [] ++ rows.map (·.w)) (md := md) trivial eupd_same rows (fun i => (i : Int)) z5 z6 z7 z8 z9 z10 z11 z12 z13 (fun r hr => ⟨?_, by simpa using h.tg r hr⟩) fun z5 z6 z7 z8 z9 z10 z11 z12 z13 => ?_
  · have : r.rs.length ≤ (rows.map fun r => r.rs.length).sum := le_sum (List.mem_map.mpr ⟨r, hr, rfl⟩)
    have := h.t
    omega
  repeat walk_at "vm"
  refine cD_i (fun z => absurd h.m (by omega)) (fun _ => ?_)
  repeat walk_at "vm"
  dsimp only
  have e : drE (nw eh) (eupd eh p (some (.dct (foundE ([] ++ rows.map (·.w)))))) = eh := by
    funext c
    unfold drE nw eupd
    by_cases hc : c = p
    · subst hc; simp [hp]
    · cases e : eh c <;> simp [hc, e]
  rw [e]
  exact k

/-! ### systems made -/
def sortR (rows : List Row) : List Row := rows.mergeSort fun r r' => PySem.W.dataLe false key0 (rowE r) (rowE r')
theorem sortR_map (rows : List Row) : sortK0 (rows.map rowE) = (sortR rows).map rowE := by
  unfold sortK0 sortR
  exact (PySem.W.sort_maps (s := PySem.W.dataLe false key0) rowE fun _ _ _ _ => rfl).symm
theorem sortR_perm (rows : List Row) : (sortR rows).Perm rows := List.mergeSort_perm _ _
def tabV (r : Row) : EV := .tup [.int r.n, .tup (r.rs.map rdE)]
def tabE (rs : List Row) : List (Key × EV) := rs.map fun r => (.inr r.w, tabV r)
def namR (r : Row) : List EV := (List.range r.rs.length).map fun (i : Nat) => .tup [.str r.w, .int (i : Int)]
def namE (rs : List Row) : List EV := rs.flatMap namR
def sysE (dims md : Int) (rs : List Row) : EV := .obj "System" [("dimension_count", .int dims), ("kept_modulus", .int md), ("kept_tables", .dct (tabE rs)), ("named_reads", .tup (namE rs))]
theorem fz_tabV {S : Addr → Bool} {eh : Eh} {k : Nat} (r : Row) : fz S eh (k + 4) (tabV r) = tabV r := by
  show EV.tup [fz S eh (k + 3) (.int r.n), .tup ((r.rs.map rdE).map (fz S eh (k + 2)))] = _
  rw [fz_rds]; rfl
theorem fz_tab {S : Addr → Bool} {eh : Eh} {k : Nat} (rs : List Row) : ((tabE rs).map fun p => (p.1, fz S eh (k + 4) p.2)) = tabE rs := by
  unfold tabE
  rw [List.map_map]
  exact List.map_congr_left fun r _ => by show (Sum.inr r.w, fz S eh (k + 4) (tabV r)) = _; rw [fz_tabV]
theorem fz_nam {S : Addr → Bool} {eh : Eh} {k : Nat} (rs : List Row) : (namE rs).map (fz S eh (k + 2)) = namE rs := by
  unfold namE
  rw [List.map_flatMap]
  congr 1
  funext r
  unfold namR
  rw [List.map_map]
  exact List.map_congr_left fun _ _ => rfl
theorem put_tab {rs : List Row} {r : Row} (h : r.w ∉ rs.map (·.w)) : putKE (tabE rs) (.inr r.w) (tabV r) = tabE (rs ++ [r]) := by
  unfold putKE
  rw [if_neg]
  · simp [tabE]
  · simp only [tabE, List.any_map, List.any_eq_true, Function.comp, decide_eq_true_eq, not_exists, not_and]
    intro v hv e
    exact h (List.mem_map.mpr ⟨v, hv, Sum.inr.inj e⟩)
def fs3 (dims md : Int) (t : EV) : List (Str × EV) := [("dimension_count", .int dims), ("kept_modulus", .int md), ("kept_tables", t)]
theorem init_loop {xc : XC} {d : Dn} {p t : Addr} {dims md : Int} {T : EV} (hpt : t ≠ p) : ∀ (rs done : List Row) (z4 z5 z6 z7 : Option EV) (eh : Eh), (done.map (·.w) ++ rs.map (·.w)).Nodup → done.length + rs.length ≤ 100 → eh p = some (.ins "System" (fs3 dims md (.ref t))) → eh t = some (.dct (tabE done)) →
    (∀ z4 z5 z6 z7 : Option EV, d.nx [some (.ref p), some (.int dims), some T, some (.int md), z4, z5, z6, z7] (eupd eh t (some (.dct (tabE (done ++ rs)))))) →
    forL (.tp [.nm 4, .nm 5, .nm 6]) bd_System_init_1 (fun _ => True) xc d (rs.map rowE) [some (.ref p), some (.int dims), some T, some (.int md), z4, z5, z6, z7] eh
  | [], done, z4, z5, z6, z7, eh, _, _, _, ht, k => by
    have := k z4 z5 z6 z7
    rw [List.append_nil, eupd_self ht] at this
    exact forL_nil trivial this
  | r :: rs, done, z4, z5, z6, z7, eh, hn, hl, hp, ht, k => by
    refine forL_cons trivial rfl ?_
    simp only [List.length_cons] at hl
    have hnw : r.w ∉ done.map (·.w) := fun z => by
      rw [List.map_cons] at hn
      exact (List.nodup_append.mp hn).2.2 r.w z r.w (by simp) rfl
    unfold bd_System_init_1
    repeat walk_at "vm"
    refine tuple_i (xs := r.rs.map rdE) rfl ?_
    refine ⟨szl (by simp), ?_⟩
    repeat walk_at "vm"
    refine ⟨_, .ref t, by simp only [insE, hp]; rfl, by rfl, ?_⟩
    repeat walk_at "vm"
    refine ⟨_, _, _, rfl, ht, rfl, ?_, ?_⟩
    · rw [show (tabE done).length = done.length by simp [tabE]]
      exact Nat.lt_of_lt_of_le (show done.length < 200 by omega) (by decide)
    have e := put_tab hnw
    unfold tabV at e
    rw [e]
    refine init_loop hpt rs (done ++ [r]) _ _ _ _ _ (by simpa using hn) (by simp; omega) (by rw [eupd_ne hpt.symm]; exact hp) eupd_same fun z4 z5 z6 z7 => ?_
    rw [eupd_eupd]
    simpa using k z4 z5 z6 z7
theorem nam_in {es : Es} {eh : Eh} {r : Row} {k : List EV → Eh → Prop} (h7 : 7 < es.length) (h4 : es[4]? = some (some (.str r.w))) (hk : ∀ acc, k acc eh → True) : ∀ (is : List Nat) (acc : List EV), acc.length + is.length ≤ 200 → k (acc ++ is.map fun (i : Nat) => EV.tup [.str r.w, .int (i : Int)]) eh →
    comp2In (.nm 7) tYesE ce_System_init_2 [7] (fun _ => True) k (is.map fun (i : Nat) => .int (i : Int)) acc es eh
  | [], acc, _, h => ⟨trivial, by simpa using h⟩
  | i :: is, acc, hl, h => by
    simp only [List.length_cons] at hl
    refine ⟨trivial, _, rfl, ?_⟩
    show ce_System_init_2 xF _ eh _
    unfold ce_System_init_2
    repeat walk_at "vm"
    refine var_i (x := .str r.w) (by simp [wipeE, h4]) ?_
    repeat walk_at "vm"
    refine var_i (x := .int i) (by simp [wipeE, h7]) ?_
    repeat walk_at "vm"
    refine ⟨szl (by simp), Nat.lt_of_lt_of_le (show acc.length < 300 by omega) (by decide), ?_⟩
    exact nam_in h7 h4 hk is _ (by simp; omega) (by simpa using h)

theorem nam_out {p : Addr} {A B C : EV} {z4 z5 z6 z7 : Option EV} {q : KE} {eh : Eh} : ∀ (rs : List Row) (acc : List EV), acc.length + (rs.map fun r => r.rs.length).sum ≤ 100 → q (.lst (acc ++ namE rs)) eh →
    comp2L (.tp [.nm 4, .tp [.nm 5, .nm 6]]) tYesE (iRange1 (aCons (mCB bLen (aCons (mVar 6) aNil)) aNil)) (.nm 7) tYesE ce_System_init_2 [4, 5, 6, 7] [7] (fun _ => True) q ((tabE rs).map fun p => .tup [keyV p.1, p.2]) acc [some (.ref p), some A, some B, some C, z4, z5, z6, z7] eh
  | [], acc, _, k => ⟨trivial, by simpa [namE] using k⟩
  | r :: rs, acc, hl, k => by
    simp only [List.map_cons, List.sum_cons] at hl
    refine ⟨trivial, _, rfl, ?_⟩
    refine tyes_i ?_
    show iRange1 _ xF _ eh _
    repeat walk_at "vm"
    refine len_i (xs := r.rs.map rdE) rfl ?_
    rw [List.length_map]
    repeat walk_at "vm"
    refine ⟨_, rfl, by omega, ?_⟩
    rw [Int.toNat_natCast]
    refine nam_in (r := r) (by simp [wipeE]) rfl (fun _ _ => trivial) (List.range r.rs.length) acc (by simp; omega) ?_
    refine nam_out rs _ (by simp; omega) ?_
    simpa [namE, namR] using k
theorem fz_dct {S : Addr → Bool} {eh : Eh} {k : Nat} {a : Addr} {kvs : List (Key × EV)} (h : S a = true) (e : eh a = some (.dct kvs)) : fz S eh (k + 1) (.ref a) = .dct (kvs.map fun p => (p.1, fz S eh k p.2)) := by simp only [fz, h, e, if_true]
theorem fz_ins {S : Addr → Bool} {eh : Eh} {k : Nat} {a : Addr} {C : Str} {fs : List (Str × EV)} (h : S a = true) (e : eh a = some (.ins C fs)) : fz S eh (k + 1) (.ref a) = .obj C (fs.map fun p => (p.1, fz S eh k p.2)) := by simp only [fz, h, e, if_true]
theorem fz_dctT {S : Addr → Bool} {eh : Eh} {k : Nat} {rs : List Row} : fz S eh (k + 5) (.dct (tabE rs)) = .dct (tabE rs) := congrArg EV.dct (fz_tab (k := k) rs)
theorem fz_tupN {S : Addr → Bool} {eh : Eh} {k : Nat} {rs : List Row} : fz S eh (k + 3) (.tup (namE rs)) = .tup (namE rs) := congrArg EV.tup (fz_nam (k := k) rs)
theorem fz_int {S : Addr → Bool} {eh : Eh} {k : Nat} {i : Int} : fz S eh k (.int i) = .int i := by cases k <;> rfl
theorem sum_perm {f : Row → Nat} {xs ys : List Row} (h : xs.Perm ys) : (xs.map f).sum = (ys.map f).sum := (h.map f).sum_nat
theorem init_mz {S : Addr → Bool} {xc : XC} {dims md : Int} {rows : List Row} {eh : Eh} {q : KE} (hS : S = nw eh) (h : SysFit dims md rows) (k : q (sysE dims md (sortR rows)) eh) :
    MZ S "System" fn_System_init xc [.int dims, .lst (rows.map rowE), .int md] eh q := by
  subst hS
  intro p hp
  have hperm := sortR_perm rows
  unfold fn_System_init ms_System_init
  repeat walk_at "vm"
  refine check_fz rfl h ?_
  repeat walk_at "vm"
  refine ⟨p, [], rfl, eupd_same, by simp, ?_⟩
  repeat walk_at "vm"
  refine ⟨p, _, rfl, eupd_same, by simp [putE], ?_⟩
  rw [eupd_eupd, eupd_eupd]
  repeat walk_at "vm"
  intro t ht
  have hpt : t ≠ p := fun z => by rw [z, eupd_same] at ht; cases ht
  have ht0 : eh t = none := by rw [eupd_ne hpt] at ht; exact ht
  repeat walk_at "vm"
  have e2 : putE "kept_modulus" (.int md) (putE "dimension_count" (.int dims) []) = ([("dimension_count", EV.int dims), ("kept_modulus", EV.int md)] : List (Str × EV)) := by rfl
  refine ⟨p, _, rfl, by rw [eupd_ne hpt.symm, eupd_same], by rw [e2]; exact (show 2 < 1000 by decide), ?_⟩
  have e3 : putE "kept_tables" (.ref t) (putE "kept_modulus" (.int md) (putE "dimension_count" (.int dims) [])) = fs3 dims md (.ref t) := by rfl
  rw [e3]
  repeat walk_at "vm"
  refine ⟨_, rfl, List.all_eq_true.mpr fun x hx => by obtain ⟨r, _, rfl⟩ := List.mem_map.mp hx; rfl, ?_⟩
  refine ⟨_, _, rfl, ?_⟩
  rw [sortR_map]
  refine init_loop hpt (sortR rows) [] _ _ _ _ _ (by simpa using (hperm.map (·.w)).nodup_iff.mpr h.nd) (by have := h.l; simp [hperm.length_eq]; omega) eupd_same (by rw [eupd_ne hpt, eupd_same]; rfl) fun z4 z5 z6 z7 => ?_
  simp only [List.nil_append]
  refine fzF_i ⟨p, fs3 dims md (.ref t), t, rfl, by rw [eupd_ne hpt.symm, eupd_same], by rfl, hpt, ?_⟩
  have e4 : fz (fun b => b == t) (eupd (eupd (eupd (eupd eh p (some (.ins "System" (putE "kept_modulus" (.int md) (putE "dimension_count" (.int dims) []))))) t (some (.dct []))) p (some (.ins "System" (fs3 dims md (.ref t))))) t (some (.dct (tabE (sortR rows))))) 9 (.ref t) = .dct (tabE (sortR rows)) := by
    exact (fz_dct (k := 8) (by simp) eupd_same).trans (congrArg EV.dct (fz_tab (k := 4) _))
  rw [e4]
  have e5 : putE "kept_tables" (.dct (tabE (sortR rows))) (fs3 dims md (.ref t)) = fs3 dims md (.dct (tabE (sortR rows))) := by rfl
  rw [e5]
  repeat walk_at "vm"
  refine ⟨_, .dct (tabE (sortR rows)), by simp only [insE, eupd_same]; rfl, by rfl, ?_⟩
  refine ⟨_, rfl, ?_⟩
  refine nam_out (sortR rows) [] (by rw [sum_perm hperm]; have := h.t; simp; omega) ?_
  repeat walk_at "vm"
  refine tuple_i (xs := namE (sortR rows)) rfl ?_
  repeat walk_at "vm"
  refine ⟨p, _, rfl, eupd_same, by simp [fs3], ?_⟩
  dsimp only
  refine ⟨trivial, ?_⟩
  rw [eupd_eupd]
  have e6 : putE "named_reads" (.tup (namE (sortR rows))) (fs3 dims md (.dct (tabE (sortR rows)))) = ([("dimension_count", EV.int dims), ("kept_modulus", EV.int md), ("kept_tables", EV.dct (tabE (sortR rows))), ("named_reads", EV.tup (namE (sortR rows)))] : List (Str × EV)) := by rfl
  rw [e6]
  have e7 : fz (nw eh) (eupd (drE (fun b => b == t) (eupd (eupd (eupd (eupd eh p (some (.ins "System" (putE "kept_modulus" (.int md) (putE "dimension_count" (.int dims) []))))) t (some (.dct []))) p (some (.ins "System" (fs3 dims md (.ref t))))) t (some (.dct (tabE (sortR rows)))))) p (some (.ins "System" [("dimension_count", .int dims), ("kept_modulus", .int md), ("kept_tables", .dct (tabE (sortR rows))), ("named_reads", .tup (namE (sortR rows)))]))) 9 (.ref p) = sysE dims md (sortR rows) := by
    have hn : nw eh p = true := by simp [nw, hp]
    rw [fz_ins (k := 8) hn eupd_same]
    simp only [List.map_cons, List.map_nil]
    rw [fz_dctT (k := 3), fz_tupN (k := 5), fz_int (k := 8), fz_int (k := 8)]
    rfl
  rw [e7]
  have e8 : ∀ o o1 o2 o3 o4, drE (nw eh) (eupd (drE (fun b => b == t) (eupd (eupd (eupd (eupd eh p o) t o1) p o2) t o3)) p o4) = eh := fun o o1 o2 o3 o4 => by
    funext c
    unfold drE nw eupd
    by_cases hc : c = p
    · subst hc; simp [hp]
    · by_cases hc2 : c = t
      · subst hc2; simp [ht0]
      · cases e : eh c <;> simp [hc, hc2, e]
  rw [e8]
  exact k

/-! ### systems read -/
theorem getK_tab : ∀ {rs : List Row} {r : Row}, (rs.map (·.w)).Nodup → r ∈ rs → getK (tabE rs) (.inr r.w) = some (tabV r)
  | r' :: rs, r, hn, hr => by
    show (if (Sum.inr r'.w : Key) = .inr r.w then some (tabV r') else getK (tabE rs) (.inr r.w)) = _
    rw [List.map_cons, List.nodup_cons] at hn
    rcases List.mem_cons.mp hr with rfl | h
    · rw [if_pos rfl]
    · have : r'.w ≠ r.w := fun z => hn.1 (z ▸ List.mem_map.mpr ⟨r, h, rfl⟩)
      rw [if_neg (fun z => this (Sum.inr.inj z))]
      exact getK_tab hn.2 h
/-- the least of ints, 0 of none -/
def mnI : List Int → Int
  | [] => 0
  | n :: r => leastI n r
theorem minT_i {ns : List Int} {eh : Eh} {q : KE} (h : ns ≠ []) (k : q (.int (mnI ns)) eh) : bMin [.tup (ns.map .int)] eh q := by
  cases ns with
  | nil => exact absurd rfl h
  | cons n r => exact ⟨_, n, r, rfl, intsE_map (n :: r), k⟩
theorem sub_comp {es : Es} {q : KE} {eh : Eh} {i j : Nat} (hij : i ≠ j) (hi : i < es.length) (hj : j < es.length) : ∀ (us vs acc : List Int), acc.length + us.length ≤ 100 → q (.lst ((acc ++ List.zipWith (· - ·) us vs).map .int)) eh →
    compL (.tp [.nm i, .nm j]) tYesE (mOp oSub (mVar i) (mVar j)) [i, j] (fun _ => True) q (((us.map EV.int).zip (vs.map EV.int)).map fun p => .tup [p.1, p.2]) (acc.map .int) es eh
  | [], vs, acc, _, k => compL_nil trivial (by simpa using k)
  | u :: us, [], acc, _, k => compL_nil trivial (by simpa using k)
  | u :: us, v :: vs, acc, hl, k => by
    simp only [List.length_cons] at hl
    refine compL_cons trivial rfl ?_
    repeat walk_at "vm"
    refine var_i (x := .int u) ?_ ?_
    · simp [List.getElem?_set, wipeE, hi, hij, hij.symm]
    refine var_i (x := .int v) ?_ ?_
    · simp [List.getElem?_set, wipeE, hj, hij, hij.symm]
    repeat walk_at "vm"
    refine ⟨Nat.lt_of_lt_of_le (by rw [List.length_map]; exact (show acc.length < 200 by omega)) (by decide), ?_⟩
    have e : acc.map EV.int ++ [.int (u - v)] = (acc ++ [u - v]).map .int := by simp
    rw [e]
    exact sub_comp hij hi hj us vs (acc ++ [u - v]) (by simp; omega) (by simpa using k)

/-! ### the property names -/
theorem names_fz {S : Addr → Bool} {xc : XC} {dims md : Int} {rs : List Row} {eh : Eh} {q : KE} (hS : S = nw eh) (k : q (.lst (rs.map fun r => .str r.w)) eh) : FZ S fn_System_names xc [sysE dims md rs] eh q := by
  subst hS
  unfold FZ fn_System_names ms_System_names
  repeat walk_at "vm"
  refine ⟨_, .dct (tabE rs), rfl, by rfl, ?_⟩
  repeat walk_at "vm"
  refine ⟨tabE rs, rfl, ?_⟩
  dsimp only
  have e : (tabE rs).map (fun p => keyV p.1) = (rs.map (·.w)).map .str := by simp [tabE, keyV]
  rw [e, drE_self]
  have e2 : fz (nw eh) eh 9 (.lst ((rs.map (·.w)).map .str)) = .lst ((rs.map (·.w)).map .str) := congrArg EV.lst (fz_strs _)
  rw [e2, List.map_map]
  exact k

/-! ### rows of the family rng fit -/
theorem words_ok : ∀ w ∈ WORDS, nameOk w = true := by decide +kernel
theorem good_fit {dims many most wide md : Int} {rows : List Row} (h : Good dims many most wide rows) (hd : 1 ≤ dims ∧ dims ≤ 3) (hm : 1 ≤ many ∧ many ≤ 6) (hmd : 2 ≤ md) (ho : most ≤ 12) : SysFit dims md rows where
  d := hd
  l := by have := h.len; omega
  nd := h.nd
  r := fun r hr => ⟨words_ok r.w (h.wd r hr), fun x hx => by
    have z := h.rd r hr x hx
    obtain ⟨r', hr', e⟩ := List.mem_map.mp z.t
    exact ⟨by rw [← e]; exact words_ok _ (h.wd r' hr'), by have := z.l; omega, z.f.1⟩⟩
  t := by have := h.tot; omega
  m := hmd
  tg := fun r hr x hx => (h.rd r hr x hx).t

/-! ### tables and cells checked -/
theorem table_fz {S : Addr → Bool} {xc : XC} {dims md : Int} {rs : List Row} {r : Row} {eh : Eh} {q : KE} (hS : S = nw eh) (hn : (rs.map (·.w)).Nodup) (hr : r ∈ rs) (k : q .non eh) : ([sysE dims md rs, EV.str r.w] ++ []).length = 2 ∧ FZ S fn_check_table xc ([sysE dims md rs, EV.str r.w] ++ []) eh q := by
  refine ⟨rfl, ?_⟩
  subst hS
  unfold FZ fn_check_table ms_check_table
  repeat walk_at "vm"
  refine ⟨_, .dct (tabE rs), rfl, by rfl, ?_⟩
  refine ninD_i (kvs := tabE rs) (by simp) rfl rfl ?_
  rw [getK_tab hn hr]
  refine ⟨_, rfl, ?_⟩
  refine cF_i ?_
  repeat walk_at "vm"
  dsimp only
  rw [drE_self]
  exact k

/-! ### cells checked -/
theorem cell_fz {S : Addr → Bool} {xc : XC} {dims md : Int} {rs : List Row} {r : Row} {pt : List Int} {eh : Eh} {q : KE} (hS : S = nw eh) (hn : (rs.map (·.w)).Nodup) (hr : r ∈ rs) (hl : (pt.length : Int) = dims) (hp : pt ≠ []) (hm : 0 ≤ mnI pt) (k : q .non eh) :
    ([sysE dims md rs, EV.tup [.str r.w, .tup (pt.map .int)]] ++ []).length = 2 ∧ FZ S fn_check_cell xc ([sysE dims md rs, EV.tup [.str r.w, .tup (pt.map .int)]] ++ []) eh q := by
  refine ⟨rfl, ?_⟩
  subst hS
  unfold FZ fn_check_cell ms_check_cell
  repeat walk_at "vm"
  refine ⟨_, rfl, ?_⟩
  repeat walk_at "vm"
  refine table_fz rfl hn hr ?_
  repeat walk_at "vm"
  refine len_i (xs := pt.map .int) rfl ?_
  repeat walk_at "vm"
  refine ⟨_, .int dims, rfl, by rfl, ?_⟩
  repeat walk_at "vm"
  have e : (!decide (((pt.map EV.int).length : Int) = dims)) = false := by simp [hl]
  rw [e]
  repeat walk_at "vm"
  refine minT_i hp ?_
  repeat walk_at "vm"
  refine cD_i (fun z => absurd z (by omega)) (fun _ => ?_)
  repeat walk_at "vm"
  dsimp only
  rw [drE_self]
  exact k

/-! ### a system's constants and reads -/
theorem okD_rd (x : Rd) : okD 2 (rdE x) = true := by
  show [EV.str x.t, .tup (x.v.map .int), .int x.f].all (okD 1) = true
  simp only [List.all_cons, List.all_nil, Bool.and_true, okD_ints, okD_str, Bool.true_and]; rfl
theorem okD_rds (rs : List Rd) : okD 3 (.lst (rs.map rdE)) = true := okD_map fun x _ => okD_rd x
theorem okD_row (r : Row) : okD 4 (rowE r) = true := by
  show [EV.str r.w, .int r.n, .lst (r.rs.map rdE)].all (okD 3) = true
  simp only [List.all_cons, List.all_nil, Bool.and_true, okD_rds, okD_str, Bool.true_and]; rfl
theorem okD_rows (rs : List Row) : okD 5 (.lst (rs.map rowE)) = true := okD_map fun r _ => okD_row r
/-! ### systems as frozen values -/
/-! ### sorted rows -/
theorem rowLe_total : PySem.W.TotalLe (fun r r' : Row => PySem.W.dataLe false key0 (rowE r) (rowE r')) := by
  have T := PySem.W.sortLe_total (PyProof.Rows.listOrd PyProof.Rows.itemOrd) false fun b : EV => PySem.W.keyToks (key0 b)
  exact ⟨fun a b c h1 h2 => T.trans (rowE a) (rowE b) (rowE c) h1 h2, fun a b => T.total (rowE a) (rowE b)⟩
theorem sortR_pw (rows : List Row) : (sortR rows).Pairwise fun r r' => PySem.W.dataLe false key0 (rowE r) (rowE r') = true := PySem.W.sort_pairwise rowLe_total rows
theorem str_ext {a b : Str} (h : a.cps.toList = b.cps.toList) : a = b := by
  cases a; cases b
  simp only at h
  congr 1
  exact Array.toList_inj.mp h
theorem rowLe_name {r r' : Row} (h1 : PySem.W.dataLe false key0 (rowE r) (rowE r') = true) (h2 : PySem.W.dataLe false key0 (rowE r') (rowE r) = true) : r.w = r'.w := by
  have e : ∀ r : Row, PySem.W.keyToks (key0 (rowE r)) = [.inr r.w.cps.toList] := fun r => rfl
  unfold PySem.W.dataLe PySem.W.sortLe at h1 h2
  simp only [cond_false, Bool.not_eq_true', e] at h1 h2
  have := (PyProof.Rows.listOrd PyProof.Rows.itemOrd).total [Sum.inr r'.w.cps.toList] [Sum.inr r.w.cps.toList] h1 h2
  simp only [List.cons.injEq, Sum.inr.injEq, and_true] at this
  exact (str_ext this).symm
theorem row_uniq {rows : List Row} (hn : (rows.map (·.w)).Nodup) {r r' : Row} (h : r ∈ rows) (h' : r' ∈ rows) (e : r.w = r'.w) : r = r' := by
  induction rows with
  | nil => cases h
  | cons x l ih =>
    rw [List.map_cons, List.nodup_cons] at hn
    rcases List.mem_cons.mp h with e1 | h1
    · rcases List.mem_cons.mp h' with e2 | h2
      · rw [e1, e2]
      · exact absurd (List.mem_map.mpr ⟨r', h2, by rw [← e1, e]⟩) hn.1
    · rcases List.mem_cons.mp h' with e2 | h2
      · exact absurd (List.mem_map.mpr ⟨r, h1, by rw [← e2, e]⟩) hn.1
      · exact ih hn.2 h1 h2
/-! ### systems: fewer reads, another order -/
theorem SysFit.sub {dims md : Int} {rows : List Row} (h : SysFit dims md rows) (f : Row → Row) (hw : ∀ r, (f r).w = r.w) (hs : ∀ r, ∀ x ∈ (f r).rs, x ∈ r.rs) (hl : ∀ r, (f r).rs.length ≤ r.rs.length) : SysFit dims md (rows.map f) := by
  have ew : (rows.map f).map (·.w) = rows.map (·.w) := by rw [List.map_map]; exact List.map_congr_left fun r _ => hw r
  refine ⟨h.d, by simpa using h.l, by rw [ew]; exact h.nd, fun r hr => ?_, ?_, h.m, fun r hr x hx => ?_⟩
  · obtain ⟨r', hr', rfl⟩ := List.mem_map.mp hr
    have z := h.r r' hr'
    exact ⟨by rw [hw]; exact z.w, fun x hx => z.rd x (hs r' x hx)⟩
  · refine Nat.le_trans ?_ h.t
    rw [List.map_map]
    have : ∀ l : List Row, (l.map ((fun r : Row => r.rs.length) ∘ f)).sum ≤ (l.map fun r => r.rs.length).sum := by
      intro l
      induction l with
      | nil => exact Nat.le_refl _
      | cons a l ih => simp only [List.map_cons, List.sum_cons, Function.comp]; exact Nat.add_le_add (hl a) ih
    exact this rows
  · obtain ⟨r', hr', rfl⟩ := List.mem_map.mp hr
    rw [ew]; exact h.tg r' hr' x (hs r' x hx)
theorem SysFit.perm {dims md : Int} {A B : List Row} (h : SysFit dims md A) (p : A.Perm B) : SysFit dims md B := by
  have pw := p.map (·.w)
  refine ⟨h.d, by rw [← p.length_eq]; exact h.l, pw.nodup_iff.mp h.nd, fun r hr => h.r r (p.mem_iff.mpr hr), ?_, h.m, fun r hr x hx => pw.mem_iff.mp (h.tg r (p.mem_iff.mpr hr) x hx)⟩
  rw [← sum_perm p]; exact h.t
theorem SysFit.sort {dims md : Int} {A : List Row} (h : SysFit dims md A) : SysFit dims md (sortR A) := h.perm (sortR_perm A).symm

/-! ### long comprehensions -/
section
variable {g : Tg} {te : ME} {tt : MT} {vs : List Nat} {ok : Eh → Prop} {α : Type} {es : Es} {eh : Eh} {q : KE}
end

/-! ### ways without an endless pair: how long they are -/
abbrev Cel := Str × List Int
def belowP (p q : List Int) : Bool := (p.zip q).all fun z => decide (z.1 ≤ z.2)
/-- an endless pair -/
def epr (a b : Cel) : Prop := a.1 = b.1 ∧ belowP a.2 b.2 = true
theorem belowP_refl : ∀ p : List Int, belowP p p = true
  | [] => rfl
  | x :: p => by
    have := belowP_refl p
    unfold belowP at this ⊢
    rw [List.zip_cons_cons, List.all_cons, this, decide_eq_true (Int.le_refl x)]; rfl
theorem epr_refl (a : Cel) : epr a a := ⟨rfl, belowP_refl _⟩
/-- ways from s, the last cell first, without an endless pair -/
inductive Wy (nx : Cel → List Cel) (s : Cel) : List Cel → Prop
  | one : Wy nx s [s]
  | cons {c a : Cel} {R : List Cel} : Wy nx s (a :: R) → c ∈ nx a → (∀ b ∈ a :: R, ¬ epr b c) → Wy nx s (c :: a :: R)
theorem nodup_le {α : Type} [DecidableEq α] : ∀ {L M : List α}, L.Nodup → (∀ x ∈ L, x ∈ M) → L.length ≤ M.length
  | [], _, _, _ => Nat.zero_le _
  | x :: L, M, hn, h => by
    rw [List.nodup_cons] at hn
    have hx := h x (by simp)
    have := nodup_le (L := L) (M := M.erase x) hn.2 fun y hy => (List.mem_erase_of_ne (fun (e : y = x) => hn.1 (by rw [← e]; exact hy))).mpr (h y (by simp [hy]))
    rw [List.length_erase_of_mem hx] at this
    have := List.length_pos_of_mem hx
    rw [List.length_cons]; omega
theorem wy_nodup {nx : Cel → List Cel} {s : Cel} {R : List Cel} (h : Wy nx s R) : R.Nodup := by
  induction h with
  | one => simp
  | cons _ _ g ih => exact List.nodup_cons.mpr ⟨fun z => g _ z (epr_refl _), ih⟩
/-- one coordinate -/
theorem wy_bound1 {nx : Cel → List Cel} {s : Cel} {names : List Str} {X P0 : Nat} (hs1 : s.1 ∈ names) (hs2 : ∃ p : Nat, p ≤ P0 ∧ s.2 = [(p : Int)])
    (hn : ∀ a c, c ∈ nx a → ∀ p : Nat, a.2 = [(p : Int)] → c.1 ∈ names ∧ ∃ q : Nat, q ≤ p + X ∧ c.2 = [(q : Int)]) {R : List Cel} (h : Wy nx s R) :
    R.length ≤ names.length * (P0 + X * names.length + 1) ∧ ∀ c ∈ R, c.1 ∈ names ∧ ∃ p : Nat, p ≤ P0 + X * names.length ∧ c.2 = [(p : Int)] := by
  have key : ∃ lg : List (Str × Nat), (lg.map (·.1)).Nodup ∧ (∀ t ∈ lg, t.1 ∈ names ∧ (t.1, [(t.2 : Int)]) ∈ R) ∧ (∀ c ∈ R, c.1 ∈ names ∧ ∃ p : Nat, p + X ≤ P0 + X * lg.length ∧ c.2 = [(p : Int)]) ∧
      R.length + (lg.map (·.2)).sum ≤ lg.length * (P0 + X * names.length + 1) ∧ 1 ≤ lg.length := by
    induction h with
    | one =>
      obtain ⟨p, hp, e⟩ := hs2
      have es : s = (s.1, [(p : Int)]) := by rw [← e]
      refine ⟨[(s.1, p)], by simp, fun t ht => ?_, fun c hc => ?_, ?_, by simp⟩
      · rw [List.mem_singleton.mp ht]
        exact ⟨hs1, by rw [← es]; simp⟩
      · rw [List.mem_singleton.mp hc]
        exact ⟨hs1, p, by simp; omega, e⟩
      · simp; omega
    | @cons c a R hw hc hg ih =>
      obtain ⟨lg, k1, k2, k3, k4, k5⟩ := ih
      obtain ⟨ha1, p, hp, ea⟩ := k3 a (by simp)
      obtain ⟨hc1, q, hq, ec⟩ := hn a c hc p ea
      have len : lg.length ≤ names.length := by
        have := nodup_le (M := names) k1 fun x hx => by
          obtain ⟨t, ht, rfl⟩ := List.mem_map.mp hx
          exact (k2 t ht).1
        simpa using this
      have ecc : c = (c.1, [(q : Int)]) := by rw [← ec]
      by_cases hm : c.1 ∈ lg.map (·.1)
      · obtain ⟨t, ht, et⟩ := List.mem_map.mp hm
        obtain ⟨u, v⟩ := t
        dsimp only at et
        subst et
        obtain ⟨l1, l2, rfl⟩ := List.append_of_mem ht
        have hv := (k2 _ ht).2
        have hlt : q < v := by
          have := hg _ hv
          unfold epr at this
          have e2 : belowP [(v : Int)] c.2 = decide ((v : Int) ≤ (q : Int)) := by rw [ec]; simp [belowP]
          dsimp only at this
          rw [e2] at this
          simp only [true_and, decide_eq_true_eq] at this
          omega
        refine ⟨l1 ++ (c.1, q) :: l2, by simpa using k1, fun t ht => ?_, fun d hd => ?_, ?_, by simp; omega⟩
        · rcases List.mem_append.mp ht with ht | ht
          · exact ⟨(k2 t (by simp [ht])).1, List.mem_cons_of_mem _ (k2 t (by simp [ht])).2⟩
          · rcases List.mem_cons.mp ht with rfl | ht
            · exact ⟨hc1, by rw [← ecc]; simp⟩
            · exact ⟨(k2 t (by simp [ht])).1, List.mem_cons_of_mem _ (k2 t (by simp [ht])).2⟩
        · rcases List.mem_cons.mp hd with rfl | hd
          · refine ⟨hc1, q, ?_, ec⟩
            obtain ⟨_, p', hp', e'⟩ := k3 _ hv
            simp only [List.cons.injEq, and_true] at e'
            simp only [List.length_append, List.length_cons] at hp' ⊢
            omega
          · obtain ⟨d1, p', hp', e'⟩ := k3 d hd
            exact ⟨d1, p', by simpa using hp', e'⟩
        · simp only [List.length_cons, List.length_append, List.map_append, List.map_cons, List.sum_append, List.sum_cons] at k4 ⊢
          omega
      · refine ⟨(c.1, q) :: lg, List.nodup_cons.mpr ⟨hm, k1⟩, fun t ht => ?_, fun d hd => ?_, ?_, by simp⟩
        · rcases List.mem_cons.mp ht with rfl | ht
          · exact ⟨hc1, by rw [← ecc]; simp⟩
          · exact ⟨(k2 t ht).1, List.mem_cons_of_mem _ (k2 t ht).2⟩
        · have em : X * (((c.1, q) :: lg).length) = X * lg.length + X := by rw [List.length_cons, Nat.mul_add, Nat.mul_one]
          rcases List.mem_cons.mp hd with rfl | hd
          · exact ⟨hc1, q, by omega, ec⟩
          · obtain ⟨d1, p', hp', e'⟩ := k3 d hd
            exact ⟨d1, p', by omega, e'⟩
        · have h1 : q ≤ P0 + X * names.length := by
            have := Nat.mul_le_mul_left X len
            omega
          have e1 : (lg.length + 1) * (P0 + X * names.length + 1) = lg.length * (P0 + X * names.length + 1) + (P0 + X * names.length + 1) := by rw [Nat.add_mul, Nat.one_mul]
          rw [List.length_cons, List.map_cons, List.sum_cons, List.length_cons (a := (c.1, q)), e1]
          omega
  obtain ⟨lg, k1, k2, k3, k4, k5⟩ := key
  have len : lg.length ≤ names.length := by
    have := nodup_le (M := names) k1 fun x hx => by
      obtain ⟨t, ht, rfl⟩ := List.mem_map.mp hx
      exact (k2 t ht).1
    simpa using this
  refine ⟨?_, fun c hc => ?_⟩
  · have := Nat.mul_le_mul_right (P0 + X * names.length + 1) len
    omega
  · obtain ⟨c1, p, hp, e⟩ := k3 c hc
    have := Nat.mul_le_mul_left X len
    exact ⟨c1, p, by omega, e⟩
/-- two coordinates: how many lines are met, by tables -/
def linK (X P0 : Nat) : Nat → Nat
  | 0 => 0
  | k + 1 => linK X P0 k + 1 + 2 * (P0 + X * linK X P0 k)
theorem linK_le (X P0 : Nat) : ∀ {k n : Nat}, k ≤ n → linK X P0 k ≤ linK X P0 n
  | k, 0, h => by rw [Nat.le_zero.mp h]; exact Nat.le_refl _
  | k, n + 1, h => by
    rcases Nat.lt_or_ge n k with z | z
    · rw [Nat.le_antisymm h z]; exact Nat.le_refl _
    · refine Nat.le_trans (linK_le X P0 z) ?_
      show linK X P0 n ≤ linK X P0 n + 1 + 2 * (P0 + X * linK X P0 n)
      omega
abbrev Lid := Str × Nat × Nat
/-- the lines of the tables that were met, by their first points -/
def linE (bs : List (Str × Nat × Nat)) : List Lid := bs.flatMap fun b => (b.1, 0, 0) :: ((List.range b.2.1).map (fun i => (b.1, 1, i)) ++ (List.range b.2.2).map fun i => (b.1, 2, i))
theorem linE_len : ∀ bs : List (Str × Nat × Nat), (linE bs).length = (bs.map fun b => 1 + b.2.1 + b.2.2).sum
  | [] => rfl
  | b :: bs => by
    have := linE_len bs
    unfold linE at this ⊢
    rw [List.flatMap_cons, List.length_append, this, List.map_cons, List.sum_cons]
    simp; omega
theorem linE_mem {bs : List (Str × Nat × Nat)} {l : Lid} : l ∈ linE bs ↔ ∃ b ∈ bs, l.1 = b.1 ∧ ((l.2.1 = 0 ∧ l.2.2 = 0) ∨ (l.2.1 = 1 ∧ l.2.2 < b.2.1) ∨ (l.2.1 = 2 ∧ l.2.2 < b.2.2)) := by
  unfold linE
  rw [List.mem_flatMap]
  constructor
  · rintro ⟨b, hb, h⟩
    refine ⟨b, hb, ?_⟩
    rcases List.mem_cons.mp h with rfl | h
    · exact ⟨rfl, .inl ⟨rfl, rfl⟩⟩
    · rcases List.mem_append.mp h with h | h
      · obtain ⟨i, hi, rfl⟩ := List.mem_map.mp h
        exact ⟨rfl, .inr (.inl ⟨rfl, List.mem_range.mp hi⟩)⟩
      · obtain ⟨i, hi, rfl⟩ := List.mem_map.mp h
        exact ⟨rfl, .inr (.inr ⟨rfl, List.mem_range.mp hi⟩)⟩
  · rintro ⟨b, hb, e, h⟩
    obtain ⟨t, k, i⟩ := l
    dsimp only at e h
    subst e
    refine ⟨b, hb, ?_⟩
    rcases h with ⟨rfl, rfl⟩ | ⟨rfl, h⟩ | ⟨rfl, h⟩
    · simp
    · exact List.mem_cons_of_mem _ (List.mem_append_left _ (List.mem_map.mpr ⟨i, List.mem_range.mpr h, rfl⟩))
    · exact List.mem_cons_of_mem _ (List.mem_append_right _ (List.mem_map.mpr ⟨i, List.mem_range.mpr h, rfl⟩))
/-- the cell on a line -/
def lineC (l : Lid) (v : Nat) : Cel := (l.1, if l.2.1 = 1 then [(l.2.2 : Int), (v : Int)] else [(v : Int), (l.2.2 : Int)])
structure Led (X P0 M : Nat) (names : List Str) (R : List Cel) (bs : List (Str × Nat × Nat)) (lg : List (Lid × Nat)) : Prop where
  nb : (bs.map (·.1)).Nodup
  tb : ∀ b ∈ bs, b.1 ∈ names ∧ (b.1, [(b.2.1 : Int), (b.2.2 : Int)]) ∈ R
  cb : (bs.map fun b => 1 + b.2.1 + b.2.2).sum ≤ linK X P0 bs.length
  nl : (lg.map (·.1)).Nodup
  sl : ∀ l ∈ lg, l.1 ∈ linE bs
  wl : ∀ l ∈ lg, l.1.2.1 ≠ 0 → lineC l.1 l.2 ∈ R
  al : ∀ b ∈ bs, (b.1, 0, 0) ∈ lg.map (·.1)
  cr : ∀ c ∈ R, c.1 ∈ bs.map (·.1) ∧ ∃ x y : Nat, x + X ≤ P0 + X * lg.length ∧ y + X ≤ P0 + X * lg.length ∧ c.2 = [(x : Int), (y : Int)]
  ln : R.length + (lg.map (·.2)).sum ≤ lg.length * (M + 1)
theorem Led.le {X P0 M : Nat} {names : List Str} {R : List Cel} {bs : List (Str × Nat × Nat)} {lg : List (Lid × Nat)} (L : Led X P0 M names R bs lg) : lg.length ≤ linK X P0 bs.length ∧ bs.length ≤ names.length := by
  constructor
  · have h := nodup_le (M := linE bs) L.nl fun x hx => by
      obtain ⟨l, hl, rfl⟩ := List.mem_map.mp hx
      exact L.sl l hl
    rw [List.length_map, linE_len] at h
    exact Nat.le_trans h L.cb
  · have h := nodup_le (M := names) L.nb fun x hx => by
      obtain ⟨b, hb, rfl⟩ := List.mem_map.mp hx
      exact (L.tb b hb).1
    rwa [List.length_map] at h
/-- a new line, of a table that was met -/
theorem Led.open_ {X P0 M : Nat} {names : List Str} {R : List Cel} {bs : List (Str × Nat × Nat)} {lg : List (Lid × Nat)} (L : Led X P0 M names R bs lg) {l : Lid} {v x y : Nat} {c : Cel} (hl : l ∈ linE bs) (hl0 : l.2.1 ≠ 0) (hn : l ∉ lg.map (·.1)) (hc : c = lineC l v) (hv : v ≤ M)
    (ec : c.2 = [(x : Int), (y : Int)]) (hx : x ≤ P0 + X * lg.length) (hy : y ≤ P0 + X * lg.length) : Led X P0 M names (c :: R) bs ((l, v) :: lg) := by
  have em : X * (((l, v) :: lg).length) = X * lg.length + X := by rw [List.length_cons, Nat.mul_add, Nat.mul_one]
  obtain ⟨b, hb, e, _⟩ := linE_mem.mp hl
  have hc1 : c.1 = b.1 := by rw [hc]; exact e
  refine ⟨L.nb, fun b hb => ⟨(L.tb b hb).1, List.mem_cons_of_mem _ (L.tb b hb).2⟩, L.cb, List.nodup_cons.mpr ⟨hn, L.nl⟩, fun u hu => ?_, fun u hu h0 => ?_, fun b hb => List.mem_cons_of_mem _ (L.al b hb), fun d hd => ?_, ?_⟩
  · rcases List.mem_cons.mp hu with rfl | hu
    · exact hl
    · exact L.sl u hu
  · rcases List.mem_cons.mp hu with rfl | hu
    · rw [hc]; exact List.mem_cons_self ..
    · exact List.mem_cons_of_mem _ (L.wl u hu h0)
  · rcases List.mem_cons.mp hd with rfl | hd
    · exact ⟨by rw [hc1]; exact List.mem_map.mpr ⟨b, hb, rfl⟩, x, y, by omega, by omega, ec⟩
    · obtain ⟨d1, x', y', h1, h2, h3⟩ := L.cr d hd
      exact ⟨d1, x', y', by omega, by omega, h3⟩
  · have h := L.ln
    have e1 : (lg.length + 1) * (M + 1) = lg.length * (M + 1) + (M + 1) := by rw [Nat.add_mul, Nat.one_mul]
    rw [List.length_cons, List.map_cons, List.sum_cons, List.length_cons (a := (l, v)), e1]
    dsimp only
    omega
/-- a lower cell on a line -/
theorem Led.low {X P0 M : Nat} {names : List Str} {R : List Cel} {bs : List (Str × Nat × Nat)} {lg : List (Lid × Nat)} (L : Led X P0 M names R bs lg) {l : Lid} {v w x y : Nat} {c : Cel} (hl : (l, w) ∈ lg) (hl0 : l.2.1 ≠ 0) (hc : c = lineC l v) (hv : v < w)
    (ec : c.2 = [(x : Int), (y : Int)]) (hx : x + X ≤ P0 + X * lg.length) (hy : y + X ≤ P0 + X * lg.length) : ∃ lg', Led X P0 M names (c :: R) bs lg' := by
  obtain ⟨l1, l2, rfl⟩ := List.append_of_mem hl
  obtain ⟨b, hb, e, _⟩ := linE_mem.mp (L.sl _ hl)
  have hc1 : c.1 = b.1 := by rw [hc]; exact e
  refine ⟨l1 ++ (l, v) :: l2, L.nb, fun b hb => ⟨(L.tb b hb).1, List.mem_cons_of_mem _ (L.tb b hb).2⟩, L.cb, by simpa using L.nl, fun u hu => ?_, fun u hu h0 => ?_, fun b hb => by simpa using L.al b hb, fun d hd => ?_, ?_⟩
  · rcases List.mem_append.mp hu with hu | hu
    · exact L.sl u (by simp [hu])
    · rcases List.mem_cons.mp hu with rfl | hu
      · exact L.sl (l, w) hl
      · exact L.sl u (by simp [hu])
  · rcases List.mem_append.mp hu with hu | hu
    · exact List.mem_cons_of_mem _ (L.wl u (by simp [hu]) h0)
    · rcases List.mem_cons.mp hu with rfl | hu
      · rw [hc]; exact List.mem_cons_self ..
      · exact List.mem_cons_of_mem _ (L.wl u (by simp [hu]) h0)
  · rcases List.mem_cons.mp hd with rfl | hd
    · exact ⟨by rw [hc1]; exact List.mem_map.mpr ⟨b, hb, rfl⟩, x, y, by simpa using hx, by simpa using hy, ec⟩
    · obtain ⟨d1, x', y', h1, h2, h3⟩ := L.cr d hd
      exact ⟨d1, x', y', by simpa using h1, by simpa using h2, h3⟩
  · have h := L.ln
    simp only [List.length_cons, List.length_append, List.map_append, List.map_cons, List.sum_append, List.sum_cons] at h ⊢
    omega
theorem below2 {x y x' y' : Nat} : belowP [(x : Int), (y : Int)] [(x' : Int), (y' : Int)] = (decide (x ≤ x') && decide (y ≤ y')) := by
  simp [belowP]
theorem wy_led {nx : Cel → List Cel} {s : Cel} {names : List Str} {X P0 M : Nat} (hM : P0 + X * linK X P0 names.length ≤ M) (hs1 : s.1 ∈ names) (hs2 : ∃ p q : Nat, p ≤ P0 ∧ q ≤ P0 ∧ s.2 = [(p : Int), (q : Int)])
    (hn : ∀ a c, c ∈ nx a → ∀ x y : Nat, a.2 = [(x : Int), (y : Int)] → c.1 ∈ names ∧ ∃ x' y' : Nat, x' ≤ x + X ∧ y' ≤ y + X ∧ c.2 = [(x' : Int), (y' : Int)]) {R : List Cel} (h : Wy nx s R) : ∃ bs lg, Led X P0 M names R bs lg := by
  -- a first cell of a table
  have base : ∀ (R : List Cel) (bs : List (Str × Nat × Nat)) (lg : List (Lid × Nat)) (t : Str) (x y : Nat), Led X P0 M names R bs lg → t ∈ names → t ∉ bs.map (·.1) → x ≤ P0 + X * lg.length → y ≤ P0 + X * lg.length → ∃ bs lg, Led X P0 M names ((t, [(x : Int), (y : Int)]) :: R) bs lg := by
    intro R bs lg t x y L ht htb hx hy
    obtain ⟨g1, g2⟩ := L.le
    have hk := Nat.mul_le_mul_left X g1
    have em : X * (lg.length + 1) = X * lg.length + X := by rw [Nat.mul_add, Nat.mul_one]
    have hno : ∀ l ∈ lg, l.1.1 ≠ t := fun l hl e => by
      obtain ⟨b, hb, e2, _⟩ := linE_mem.mp (L.sl l hl)
      exact htb (List.mem_map.mpr ⟨b, hb, by rw [← e2, e]⟩)
    refine ⟨(t, x, y) :: bs, ((t, 0, 0), 0) :: lg, List.nodup_cons.mpr ⟨htb, L.nb⟩, fun b hb => ?_, ?_, List.nodup_cons.mpr ⟨fun z => ?_, L.nl⟩, fun l hl => ?_, fun l hl h0 => ?_, fun b hb => ?_, fun c hc => ?_, ?_⟩
    · rcases List.mem_cons.mp hb with rfl | hb
      · exact ⟨ht, List.mem_cons_self ..⟩
      · exact ⟨(L.tb b hb).1, List.mem_cons_of_mem _ (L.tb b hb).2⟩
    · have := L.cb
      rw [List.map_cons, List.sum_cons, List.length_cons]
      show 1 + x + y + _ ≤ linK X P0 bs.length + 1 + 2 * (P0 + X * linK X P0 bs.length)
      omega
    · obtain ⟨l, hl, e⟩ := List.mem_map.mp z
      exact hno l hl (by rw [e])
    · rcases List.mem_cons.mp hl with rfl | hl
      · exact linE_mem.mpr ⟨(t, x, y), by simp, rfl, .inl ⟨rfl, rfl⟩⟩
      · obtain ⟨b, hb, e⟩ := linE_mem.mp (L.sl l hl)
        exact linE_mem.mpr ⟨b, by simp [hb], e⟩
    · rcases List.mem_cons.mp hl with rfl | hl
      · exact absurd rfl h0
      · exact List.mem_cons_of_mem _ (L.wl l hl h0)
    · rcases List.mem_cons.mp hb with rfl | hb
      · simp
      · exact List.mem_cons_of_mem _ (L.al b hb)
    · rcases List.mem_cons.mp hc with rfl | hc
      · exact ⟨by simp, x, y, by rw [List.length_cons, em]; omega, by rw [List.length_cons, em]; omega, rfl⟩
      · obtain ⟨c1, x', y', h1, h2, h3⟩ := L.cr c hc
        exact ⟨List.mem_cons_of_mem _ c1, x', y', by rw [List.length_cons, em]; omega, by rw [List.length_cons, em]; omega, h3⟩
    · have h := L.ln
      have e1 : (lg.length + 1) * (M + 1) = lg.length * (M + 1) + (M + 1) := by rw [Nat.add_mul, Nat.one_mul]
      rw [List.length_cons, List.map_cons, List.sum_cons, List.length_cons (a := ((t, 0, 0), 0)), e1]
      dsimp only
      omega
  induction h with
  | one =>
    obtain ⟨p, q, hp, hq, e⟩ := hs2
    have es : s = (s.1, [(p : Int), (q : Int)]) := by rw [← e]
    rw [es]
    exact base [] [] [] s.1 p q ⟨by simp, by simp, by simp [linK], by simp, by simp, by simp, by simp, by simp, by simp⟩ hs1 (by simp) (by simpa using hp) (by simpa using hq)
  | @cons c a R hw hc hg ih =>
    obtain ⟨bs, lg, L⟩ := ih
    obtain ⟨g1, g2⟩ := L.le
    have hk := Nat.mul_le_mul_left X (Nat.le_trans g1 (linK_le X P0 g2))
    obtain ⟨ha1, x, y, hx, hy, ea⟩ := L.cr a (by simp)
    obtain ⟨hc1, x', y', hx', hy', ec⟩ := hn a c hc x y ea
    have ecc : c = (c.1, [(x' : Int), (y' : Int)]) := by rw [← ec]
    by_cases hm : c.1 ∈ bs.map (·.1)
    · obtain ⟨b, hb, eb⟩ := List.mem_map.mp hm
      obtain ⟨bt, bx, bY⟩ := b
      dsimp only at eb
      subst eb
      have hbR := (L.tb _ hb).2
      dsimp only at hbR
      have nb : ¬ (bx ≤ x' ∧ bY ≤ y') := fun z => hg _ hbR ⟨rfl, by rw [ec, below2, decide_eq_true z.1, decide_eq_true z.2]; rfl⟩
      have lR : 1 ≤ lg.length := by
        have := L.al _ hb
        have := List.length_pos_of_mem this
        rwa [List.length_map] at this
      by_cases hxb : x' < bx
      · -- a column
        by_cases hk2 : (c.1, 1, x') ∈ lg.map (·.1)
        · obtain ⟨l, hl, el⟩ := List.mem_map.mp hk2
          obtain ⟨li, w⟩ := l
          dsimp only at el
          subst el
          have hw2 := L.wl _ hl (by show (1 : Nat) ≠ 0; decide)
          have ew : lineC (c.1, 1, x') w = (c.1, [(x' : Int), (w : Int)]) := rfl
          rw [ew] at hw2
          have hlt : y' < w := Nat.lt_of_not_le fun z => hg _ hw2 ⟨rfl, by rw [ec, below2, decide_eq_true (Nat.le_refl _), decide_eq_true z]; rfl⟩
          obtain ⟨_, x2, y2, h1, h2, h3⟩ := L.cr _ hw2
          simp only [List.cons.injEq, and_true] at h3
          obtain ⟨lg', L'⟩ := L.low (c := c) (v := y') hl (by show (1 : Nat) ≠ 0; decide) ecc hlt ec (by omega) (by omega)
          exact ⟨bs, lg', L'⟩
        · exact ⟨bs, _, L.open_ (l := (c.1, 1, x')) (v := y') (linE_mem.mpr ⟨_, hb, rfl, .inr (.inl ⟨rfl, hxb⟩)⟩) (by show (1 : Nat) ≠ 0; decide) hk2 ecc (by omega) ec (by omega) (by omega)⟩
      · -- a row
        have hyb : y' < bY := by omega
        by_cases hk2 : (c.1, 2, y') ∈ lg.map (·.1)
        · obtain ⟨l, hl, el⟩ := List.mem_map.mp hk2
          obtain ⟨li, w⟩ := l
          dsimp only at el
          subst el
          have hw2 := L.wl _ hl (by show (2 : Nat) ≠ 0; decide)
          have ew : lineC (c.1, 2, y') w = (c.1, [(w : Int), (y' : Int)]) := rfl
          rw [ew] at hw2
          have hlt : x' < w := Nat.lt_of_not_le fun z => hg _ hw2 ⟨rfl, by rw [ec, below2, decide_eq_true (Nat.le_refl _), decide_eq_true z]; rfl⟩
          obtain ⟨_, x2, y2, h1, h2, h3⟩ := L.cr _ hw2
          simp only [List.cons.injEq, and_true] at h3
          obtain ⟨lg', L'⟩ := L.low (c := c) (v := x') hl (by show (2 : Nat) ≠ 0; decide) ecc hlt ec (by omega) (by omega)
          exact ⟨bs, lg', L'⟩
        · exact ⟨bs, _, L.open_ (l := (c.1, 2, y')) (v := x') (linE_mem.mpr ⟨_, hb, rfl, .inr (.inr ⟨rfl, hyb⟩)⟩) (by show (2 : Nat) ≠ 0; decide) hk2 ecc (by omega) ec (by omega) (by omega)⟩
    · rw [ecc]
      exact base _ bs lg c.1 x' y' L hc1 hm (by omega) (by omega)
/-- two coordinates -/
theorem wy_bound2 {nx : Cel → List Cel} {s : Cel} {names : List Str} {X P0 M : Nat} (hM : P0 + X * linK X P0 names.length ≤ M) (hs1 : s.1 ∈ names) (hs2 : ∃ p q : Nat, p ≤ P0 ∧ q ≤ P0 ∧ s.2 = [(p : Int), (q : Int)])
    (hn : ∀ a c, c ∈ nx a → ∀ x y : Nat, a.2 = [(x : Int), (y : Int)] → c.1 ∈ names ∧ ∃ x' y' : Nat, x' ≤ x + X ∧ y' ≤ y + X ∧ c.2 = [(x' : Int), (y' : Int)]) {R : List Cel} (h : Wy nx s R) :
    R.length ≤ linK X P0 names.length * (M + 1) ∧ ∀ c ∈ R, c.1 ∈ names ∧ ∃ x y : Nat, x ≤ M ∧ y ≤ M ∧ c.2 = [(x : Int), (y : Int)] := by
  obtain ⟨bs, lg, L⟩ := wy_led hM hs1 hs2 hn h
  obtain ⟨g1, g2⟩ := L.le
  have g3 := Nat.le_trans g1 (linK_le X P0 g2)
  have hk := Nat.mul_le_mul_left X g3
  refine ⟨?_, fun c hc => ?_⟩
  · have := L.ln
    have := Nat.mul_le_mul_right (M + 1) g3
    omega
  · obtain ⟨c1, x, y, hx, hy, e⟩ := L.cr c hc
    obtain ⟨b, hb, eb⟩ := List.mem_map.mp c1
    exact ⟨by rw [← eb]; exact (L.tb b hb).1, x, y, by omega, by omega, e⟩

/-! ### which cells are ready; the search's state -/
/-- there are not ways of every length from it -/
abbrev Rdy (nx : Cel → List Cel) (c : Cel) : Prop := Acc (fun b a => b ∈ nx a) c
/-- a path of one step or more -/
inductive Pth (nx : Cel → List Cel) (c : Cel) : Cel → Prop
  | one {a : Cel} : c ∈ nx a → Pth nx c a
  | step {a b : Cel} : b ∈ nx a → Pth nx c b → Pth nx c a
theorem Pth.snoc {nx : Cel → List Cel} {a b c : Cel} (h : Pth nx b a) (hc : c ∈ nx b) : Pth nx c a := by
  induction h with
  | one h1 => exact .step h1 (.one hc)
  | step h1 _ ih => exact .step h1 ih
theorem Pth.trans {nx : Cel → List Cel} {a b c : Cel} (h : Pth nx b a) (k : Pth nx c b) : Pth nx c a := by
  induction h with
  | one h1 => exact .step h1 k
  | step h1 _ ih => exact .step h1 ih
theorem rdy_next {nx : Cel → List Cel} {a b : Cel} (h : Rdy nx a) (hb : b ∈ nx a) : Rdy nx b := h.inv hb
theorem rdy_path {nx : Cel → List Cel} {a b : Cel} (h : Rdy nx a) (p : Pth nx b a) : Rdy nx b := by
  induction p with
  | one h1 => exact rdy_next h h1
  | step h1 _ ih => exact ih (rdy_next h h1)
/-- what is read grows with the point -/
structure Mon (nx : Cel → List Cel) (ok : Cel → Prop) : Prop where
  cl : ∀ a c, ok a → c ∈ nx a → ok c
  mo : ∀ a b c, ok a → ok b → epr a b → c ∈ nx a → ∃ d ∈ nx b, epr c d
  tr : ∀ a b c, ok a → ok b → ok c → epr a b → epr b c → epr a c
theorem Pth.ok {nx : Cel → List Cel} {ok : Cel → Prop} (M : Mon nx ok) {a c : Cel} (h : Pth nx c a) (ha : ok a) : ok c := by
  induction h with
  | one h1 => exact M.cl _ _ ha h1
  | step h1 _ ih => exact ih (M.cl _ _ ha h1)
/-- an endless pair goes on for ever -/
theorem not_rdy {nx : Cel → List Cel} {ok : Cel → Prop} (M : Mon nx ok) {b c : Cel} (hb : ok b) (p : Pth nx c b) (e : epr b c) : ¬ Rdy nx b := by
  have hc := p.ok M hb
  have key : ∀ x, Rdy nx x → ok x → (∃ y, ok y ∧ epr y x ∧ Pth nx c y) → False := fun x h => by
    induction h with
    | intro x _ ih =>
      rintro hx ⟨y, hy, e1, p1⟩
      cases p1 with
      | one h1 =>
        obtain ⟨d, hd, e2⟩ := M.mo y x c hy hx e1 h1
        exact ih d hd (M.cl _ _ hx hd) ⟨b, hb, M.tr _ _ _ hb hc (M.cl _ _ hx hd) e e2, p⟩
      | @step _ y1 h1 p2 =>
        obtain ⟨d, hd, e2⟩ := M.mo y x y1 hy hx e1 h1
        exact ih d hd (M.cl _ _ hx hd) ⟨y1, M.cl _ _ hy h1, e2, p2⟩
  exact fun h => key b h hb ⟨b, hb, epr_refl b, p⟩
theorem wy_path {nx : Cel → List Cel} {s a : Cel} {R : List Cel} (h : Wy nx s (a :: R)) : ∀ b ∈ R, Pth nx a b := by
  generalize e : a :: R = Q at h
  induction h generalizing a R with
  | one => cases e; intro b hb; cases hb
  | cons h1 h2 _ ih =>
    cases e
    intro b hb
    rcases List.mem_cons.mp hb with rfl | hb
    · exact .one h2
    · exact (ih rfl b hb).snoc h2
/-- the cells on the way with their waiting lists, the last one first -/
abbrev Frm := Cel × Addr × List Cel
def FrUp (nx : Cel → List Cel) (s : Cel) (kn : List Cel) : Cel → List Frm → List Cel → Prop
  | c, [], ws => c = s ∧ ws = []
  | c, f :: F, ws => (∀ y ∈ nx f.1, y ∈ kn ∨ y ∈ ws ∨ y = c) ∧ (∀ y ∈ ws, y ∈ nx f.1) ∧ FrUp nx s kn f.1 F f.2.2
def FrI (nx : Cel → List Cel) (s : Cel) (kn : List Cel) : List Frm → List Cel → Prop
  | [], w => w = [s] ∨ (w = [] ∧ s ∈ kn)
  | f :: F, w => (∀ y ∈ nx f.1, y ∈ kn ∨ y ∈ w) ∧ (∀ y ∈ w, y ∈ nx f.1) ∧ FrUp nx s kn f.1 F f.2.2
section
variable {nx : Cel → List Cel} {s : Cel} {kn kn' : List Cel}
theorem FrUp.mono (h : ∀ x ∈ kn, x ∈ kn') : ∀ {F : List Frm} {c : Cel} {ws : List Cel}, FrUp nx s kn c F ws → FrUp nx s kn' c F ws
  | [], _, _, i => i
  | f :: F, c, ws, ⟨a, b, i⟩ => ⟨fun y hy => (a y hy).imp_left (h y), b, FrUp.mono h i⟩
theorem FrI.pop {f : Frm} {F : List Frm} (i : FrI nx s kn (f :: F) []) : (∀ y ∈ nx f.1, y ∈ kn) ∧ FrI nx s (kn ++ [f.1]) F f.2.2 := by
  obtain ⟨a, b, i⟩ := i
  refine ⟨fun y hy => (a y hy).resolve_right (by simp), ?_⟩
  cases F with
  | nil =>
    obtain ⟨h1, h2⟩ := i
    exact .inr ⟨h2, by rw [h1]; simp⟩
  | cons g G =>
    obtain ⟨a1, b1, i1⟩ := i
    refine ⟨fun y hy => ?_, b1, i1.mono fun x hx => by simp [hx]⟩
    rcases a1 y hy with h | h | rfl
    · exact .inl (by simp [h])
    · exact .inr h
    · exact .inl (by simp)
theorem FrI.skip {F : List Frm} {w : List Cel} {l : Cel} (i : FrI nx s kn F (w ++ [l])) (hl : l ∈ kn) : FrI nx s kn F w := by
  cases F with
  | nil =>
    rcases i with h | ⟨h, _⟩
    · have : w = [] ∧ l = s := by
        cases w with
        | nil => simpa using h
        | cons x w => simp at h
      exact .inr ⟨this.1, this.2 ▸ hl⟩
    · simp at h
  | cons f F =>
    obtain ⟨a, b, i⟩ := i
    refine ⟨fun y hy => ?_, fun y hy => b y (by simp [hy]), i⟩
    rcases a y hy with h | h
    · exact .inl h
    · rcases List.mem_append.mp h with h | h
      · exact .inr h
      · rw [List.mem_singleton.mp h]; exact .inl hl
theorem FrI.push {F : List Frm} {w : List Cel} {l : Cel} {a : Addr} (i : FrI nx s kn F (w ++ [l])) : FrI nx s kn ((l, a, w) :: F) (nx l) := by
  refine ⟨fun y hy => .inr hy, fun y hy => hy, ?_⟩
  cases F with
  | nil =>
    rcases i with h | ⟨h, _⟩
    · cases w with
      | nil => exact ⟨by simpa using h, rfl⟩
      | cons x w => simp at h
    · simp at h
  | cons f F =>
    obtain ⟨a1, b1, i1⟩ := i
    refine ⟨fun y hy => ?_, fun y hy => b1 y (by simp [hy]), i1⟩
    rcases a1 y hy with h | h
    · exact .inl h
    · rcases List.mem_append.mp h with h | h
      · exact .inr (.inl h)
      · exact .inr (.inr (List.mem_singleton.mp h))
/-- what comes next is read by the last cell, or is the first one -/
theorem FrI.next {F : List Frm} {w : List Cel} {l : Cel} (i : FrI nx s kn F (w ++ [l])) : (F = [] ∧ l = s ∧ w = []) ∨ ∃ f G, F = f :: G ∧ l ∈ nx f.1 := by
  cases F with
  | nil =>
    rcases i with h | ⟨h, _⟩
    · cases w with
      | nil => exact .inl ⟨rfl, by simpa using h, rfl⟩
      | cons x w => simp at h
    · simp at h
  | cons f F => exact .inr ⟨f, F, rfl, i.2.1 l (by simp)⟩
/-- what is known of the cells that are known -/
structure Kno (nx : Cel → List Cel) (bx kn : List Cel) : Prop where
  nd : kn.Nodup
  rd : ∀ c ∈ kn, Rdy nx c
  cl : ∀ c ∈ kn, ∀ y ∈ nx c, y ∈ kn
  bx : ∀ c ∈ kn, c ∈ bx
theorem Kno.add {bx : List Cel} (K : Kno nx bx kn) {c : Cel} (hc : c ∉ kn) (h : ∀ y ∈ nx c, y ∈ kn) (hb : c ∈ bx) : Kno nx bx (kn ++ [c]) := by
  refine ⟨List.nodup_append.mpr ⟨K.nd, by simp, fun x hx y hy e => hc (by rw [List.mem_singleton.mp hy] at e; rw [← e]; exact hx)⟩, fun x hx => ?_, fun x hx y hy => ?_, fun x hx => ?_⟩
  · rcases List.mem_append.mp hx with hx | hx
    · exact K.rd x hx
    · rw [List.mem_singleton.mp hx]
      exact Acc.intro c fun y hy => K.rd y (h y hy)
  · rcases List.mem_append.mp hx with hx | hx
    · simp [K.cl x hx y hy]
    · rw [List.mem_singleton.mp hx] at hy
      simp [h y hy]
  · rcases List.mem_append.mp hx with hx | hx
    · exact K.bx x hx
    · rw [List.mem_singleton.mp hx]; exact hb
/-- what the search still has to do -/
def todo (bx kn : List Cel) (F : List Frm) : Nat := (bx.filter fun c => decide (c ∉ kn ∧ c ∉ F.map (·.1))).length
theorem filter_lt {α : Type} {p p' : α → Bool} : ∀ {L : List α}, (∀ x ∈ L, p' x = true → p x = true) → (∃ x ∈ L, p x = true ∧ p' x = false) → (L.filter p').length + 1 ≤ (L.filter p).length
  | [], _, ⟨_, h, _⟩ => by cases h
  | x :: L, h, ⟨y, hy, h1, h2⟩ => by
    have le : ∀ L : List α, (∀ x ∈ L, p' x = true → p x = true) → (L.filter p').length ≤ (L.filter p).length := fun L => by
      induction L with
      | nil => intro _; exact Nat.le_refl _
      | cons x L ih =>
        intro h
        have := ih fun z hz => h z (by simp [hz])
        have hx := h x (by simp)
        rw [List.filter_cons, List.filter_cons]
        cases e : p' x with
        | true => rw [hx e]; simpa using this
        | false => cases p x <;> simp <;> omega
    have hx := h x (by simp)
    have l2 := le L fun z hz => h z (by simp [hz])
    rw [List.filter_cons, List.filter_cons]
    rcases List.mem_cons.mp hy with rfl | hy
    · rw [h1, h2]; simp; exact l2
    · have := filter_lt (L := L) (fun z hz => h z (by simp [hz])) ⟨y, hy, h1, h2⟩
      cases e : p' x with
      | true => rw [hx e]; simp; omega
      | false => cases p x <;> simp <;> omega
theorem todo_push {bx : List Cel} {F : List Frm} {l : Cel} {a : Addr} {w : List Cel} (hb : l ∈ bx) (h1 : l ∉ kn) (h2 : l ∉ F.map (·.1)) : todo bx kn ((l, a, w) :: F) + 1 ≤ todo bx kn F := by
  unfold todo
  refine filter_lt (fun x _ hx => ?_) ⟨l, hb, by simpa using ⟨h1, by simpa using h2⟩, by simp⟩
  simp only [List.map_cons, List.mem_cons, not_or, decide_eq_true_eq] at hx ⊢
  exact ⟨hx.1, hx.2.2⟩
theorem todo_pop {bx : List Cel} {F : List Frm} {f : Frm} : todo bx (kn ++ [f.1]) F = todo bx kn (f :: F) := by
  unfold todo
  congr 1
  refine List.filter_congr fun x _ => ?_
  simp only [List.map_cons, List.mem_cons, List.mem_append, List.not_mem_nil, or_false, not_or]
  exact decide_eq_decide.mpr ⟨fun ⟨⟨a, b⟩, c⟩ => ⟨a, b, c⟩, fun ⟨a, b, c⟩ => ⟨⟨a, b⟩, c⟩⟩
end

/-! ### the least of ints -/
theorem mnI_nonneg {ns : List Int} (h : ∀ n ∈ ns, 0 ≤ n) : 0 ≤ mnI ns := by
  cases ns with
  | nil => exact Int.le_refl _
  | cons n r =>
    have : ∀ (r : List Int) (n : Int), 0 ≤ n → (∀ m ∈ r, 0 ≤ m) → 0 ≤ leastI n r := by
      intro r
      induction r with
      | nil => intro n hn _; exact hn
      | cons m r ih => intro n hn hr; exact ih _ (by split; exact hr m (by simp); exact hn) fun y hy => hr y (by simp [hy])
    exact this r n (h n (by simp)) fun m hm => h m (by simp [hm])
theorem mnI_iff {ns : List Int} (h : ns ≠ []) : 0 ≤ mnI ns ↔ ∀ n ∈ ns, 0 ≤ n := by
  refine ⟨fun hm => ?_, mnI_nonneg⟩
  cases ns with
  | nil => exact absurd rfl h
  | cons n r =>
    have : ∀ (r : List Int) (n : Int), leastI n r ≤ n ∧ ∀ m ∈ r, leastI n r ≤ m := by
      intro r
      induction r with
      | nil => intro n; exact ⟨Int.le_refl _, by simp⟩
      | cons m r ih =>
        intro n
        show leastI (if m < n then m else n) r ≤ n ∧ ∀ x ∈ m :: r, leastI (if m < n then m else n) r ≤ x
        obtain ⟨a, b⟩ := ih (if m < n then m else n)
        have hq : (if m < n then m else n) ≤ n ∧ (if m < n then m else n) ≤ m := by split <;> omega
        generalize (if m < n then m else n) = z at *
        refine ⟨by omega, fun x hx => ?_⟩
        rcases List.mem_cons.mp hx with rfl | hx
        · omega
        · exact b x hx
    obtain ⟨a, b⟩ := this r n
    have hm' : 0 ≤ leastI n r := hm
    intro m hm2
    rcases List.mem_cons.mp hm2 with rfl | h
    · omega
    · have := b m h; omega

/-! ### cells that are read -/
def subL (us vs : List Int) : List Int := List.zipWith (· - ·) us vs
def cellsR (rds : List Rd) (pt : List Int) : List (Str × List Int) := rds.filterMap fun x => if 0 ≤ mnI (subL pt x.v) then some (x.t, subL pt x.v) else none
def cellE (c : Str × List Int) : EV := .tup [.str c.1, .tup (c.2.map .int)]
theorem subL_ne {us vs : List Int} (h : us ≠ []) (hl : us.length = vs.length) : subL us vs ≠ [] := by
  cases us with
  | nil => exact absurd rfl h
  | cons u us => cases vs with
    | nil => simp at hl
    | cons v vs => simp [subL]
theorem cells_cons {x : Rd} {rds : List Rd} {pt : List Int} : cellsR (x :: rds) pt = (if 0 ≤ mnI (subL pt x.v) then [(x.t, subL pt x.v)] else []) ++ cellsR rds pt := by
  unfold cellsR
  rw [List.filterMap_cons]
  by_cases h : 0 ≤ mnI (subL pt x.v)
  · simp [h]
  · simp [h]
theorem cells_len : ∀ (rds : List Rd) (pt : List Int), (cellsR rds pt).length ≤ rds.length := fun rds pt => List.length_filterMap_le _ _
theorem cells_loop {xc : XC} {d : Dn} {p : Addr} {A B : EV} {pt : List Int} {ok : Eh → Prop} (hok : ∀ eh v, ok eh → ok (eupd eh p v)) (hpt : pt ≠ []) (hpl : pt.length ≤ 50) : ∀ (rds : List Rd) (done : List (Str × List Int)) (z4 z5 z6 z7 z8 z9 : Option EV) (eh : Eh), ok eh → (∀ x ∈ rds, x.v.length = pt.length) → done.length + rds.length ≤ 200 → eh p = some (.lst (done.map cellE)) →
    (∀ z4 z5 z6 z7 z8 z9 : Option EV, d.nx [some A, some B, some (.tup (pt.map .int)), some (.ref p), z4, z5, z6, z7, z8, z9] (eupd eh p (some (.lst ((done ++ cellsR rds pt).map cellE))))) →
    forL (.tp [.nm 4, .nm 5, .nm 6]) bd_cells_from_2 ok xc d (rds.map rdE) [some A, some B, some (.tup (pt.map .int)), some (.ref p), z4, z5, z6, z7, z8, z9] eh
  | [], done, z4, z5, z6, z7, z8, z9, eh, ho, _, _, hp, k => by
    have := k z4 z5 z6 z7 z8 z9
    simp only [cellsR, List.filterMap_nil, List.append_nil] at this
    rw [eupd_self hp] at this
    exact forL_nil ho this
  | x :: rds, done, z4, z5, z6, z7, z8, z9, eh, ho, hv, hl, hp, k => by
    simp only [List.length_cons] at hl
    refine forL_cons ho rfl ?_
    unfold bd_cells_from_2
    repeat walk_at "vm"
    refine sub_comp (by decide) (by simp) (by simp) pt x.v [] (by simp; omega) ?_
    repeat walk_at "vm"
    refine tuple_i (xs := (subL pt x.v).map .int) rfl ?_
    dsimp only
    repeat walk_at "vm"
    refine minT_i (subL_ne hpt (hv x (by simp)).symm) ?_
    repeat walk_at "vm"
    refine cD_i (fun hm => ?_) (fun hm => ?_)
    · repeat walk_at "vm"
      refine ⟨⟨done.map cellE, by simp [lstE, hp]⟩, ?_⟩
      repeat walk_at "vm"
      refine ⟨szl (by simp), ?_⟩
      refine ⟨done.map cellE, hp, Nat.lt_of_lt_of_le (by rw [List.length_map]; exact (show done.length < 300 by omega)) (by decide), ?_⟩
      have e : done.map cellE ++ [EV.tup [.str x.t, .tup ((subL pt x.v).map .int)]] = (done ++ [(x.t, subL pt x.v)]).map cellE := by simp [cellE]
      rw [e]
      refine cells_loop hok hpt hpl rds (done ++ [(x.t, subL pt x.v)]) _ _ _ _ _ _ _ (hok _ _ ho) (fun y hy => hv y (by simp [hy])) (by simp; omega) eupd_same fun z4 z5 z6 z7 z8 z9 => ?_
      rw [eupd_eupd]
      have := k z4 z5 z6 z7 z8 z9
      rw [cells_cons, if_pos hm, ← List.append_assoc] at this
      exact this
    · repeat walk_at "vm"
      refine cells_loop hok hpt hpl rds done _ _ _ _ _ _ _ ho (fun y hy => hv y (by simp [hy])) (by omega) hp fun z4 z5 z6 z7 z8 z9 => ?_
      have := k z4 z5 z6 z7 z8 z9
      rw [cells_cons, if_neg hm, List.nil_append] at this
      exact this
/-- a system read at a point -/
structure CellFit (dims : Int) (rs : List Row) (r : Row) (pt : List Int) : Prop where
  nd : (rs.map (·.w)).Nodup
  mem : r ∈ rs
  l : (pt.length : Int) = dims
  p : pt ≠ []
  m : 0 ≤ mnI pt
  s : pt.length ≤ 50
  v : ∀ x ∈ r.rs, x.v.length = pt.length
  n : r.rs.length ≤ 100
theorem cells_ok {xc : XC} {dims md : Int} {rs : List Row} {r : Row} {pt : List Int} {eh : Eh} {q : KE} (h : CellFit dims rs r pt) (k : ∀ p, eh p = none → q (.ref p) (eupd eh p (some (.lst ((cellsR r.rs pt).map cellE))))) : fn_cells_from xc [sysE dims md rs, .str r.w, .tup (pt.map .int)] eh q := by
  unfold fn_cells_from ms_cells_from
  repeat walk_at "vm"
  refine ⟨szl (by simp), fun p hp => ?_⟩
  repeat walk_at "vm"
  refine ⟨_, .dct (tabE rs), rfl, by rfl, ?_⟩
  repeat walk_at "vm"
  refine ixd_i (kvs := tabE rs) rfl rfl (getK_tab h.nd h.mem) ?_
  repeat walk_at "vm"
  refine ix_i (xs := [.int r.n, .tup (r.rs.map rdE)]) (z := .tup (r.rs.map rdE)) rfl (by rfl) ?_
  refine ⟨_, _, rfl, ?_⟩
  refine cells_loop (fun _ _ _ => trivial) h.p h.s r.rs [] _ _ _ _ _ _ _ trivial h.v (by have := h.n; simp; omega) (by rw [eupd_same]; rfl) fun z4 z5 z6 z7 z8 z9 => ?_
  rw [eupd_eupd]
  repeat walk_at "vm"
  exact k p hp
theorem from_inner {xc : XC} {d : Dn} {p : Addr} {A w : EV} {pt : List Int} {z3 z4 z5 : Option EV} {wv : EV} (hpt : pt ≠ []) (hpl : pt.length ≤ 50) : ∀ (rds : List Rd) (done : List (Str × List Int)) (z6 z7 z8 z9 z10 z11 : Option EV) (eh : Eh), (∀ x ∈ rds, x.v.length = pt.length) → done.length + rds.length ≤ 200 → eh p = some (.lst (done.map cellE)) →
    (∀ z6 z7 z8 z9 z10 z11 : Option EV, d.nx [some A, some (.tup [w, .tup (pt.map .int)]), some (.ref p), z3, z4, z5, z6, z7, z8, z9, z10, z11] (eupd eh p (some (.lst ((done ++ cellsR rds pt).map cellE))))) →
    forL (.tp [.nm 6, .nm 7, .nm 8]) bd__law_from_2 (fun _ => True) xc d (rds.map rdE) [some A, some (.tup [w, .tup (pt.map .int)]), some (.ref p), z3, z4, z5, z6, z7, z8, z9, z10, z11] eh
  | [], done, z6, z7, z8, z9, z10, z11, eh, _, _, hp, k => by
    have := k z6 z7 z8 z9 z10 z11
    simp only [cellsR, List.filterMap_nil, List.append_nil] at this
    rw [eupd_self hp] at this
    exact forL_nil trivial this
  | x :: rds, done, z6, z7, z8, z9, z10, z11, eh, hv, hl, hp, k => by
    simp only [List.length_cons] at hl
    refine forL_cons trivial rfl ?_
    unfold bd__law_from_2
    repeat walk_at "vm"
    refine ix_i (xs := [w, .tup (pt.map .int)]) (z := .tup (pt.map .int)) rfl (by rfl) ?_
    repeat walk_at "vm"
    refine sub_comp (by decide) (by simp) (by simp) pt x.v [] (by simp; omega) ?_
    repeat walk_at "vm"
    refine tuple_i (xs := (subL pt x.v).map .int) rfl ?_
    dsimp only
    repeat walk_at "vm"
    refine minT_i (subL_ne hpt (hv x (by simp)).symm) ?_
    repeat walk_at "vm"
    refine cD_i (fun hm => ?_) (fun hm => ?_)
    · repeat walk_at "vm"
      refine ⟨⟨done.map cellE, by simp [lstE, hp]⟩, ?_⟩
      repeat walk_at "vm"
      refine ⟨szl (by simp), ?_⟩
      refine ⟨done.map cellE, hp, Nat.lt_of_lt_of_le (by rw [List.length_map]; exact (show done.length < 300 by omega)) (by decide), ?_⟩
      have e : done.map cellE ++ [EV.tup [.str x.t, .tup ((subL pt x.v).map .int)]] = (done ++ [(x.t, subL pt x.v)]).map cellE := by simp [cellE]
      rw [e]
      refine from_inner hpt hpl (wv := wv) rds (done ++ [(x.t, subL pt x.v)]) _ _ _ _ _ _ _ (fun y hy => hv y (by simp [hy])) (by simp; omega) eupd_same fun z6 z7 z8 z9 z10 z11 => ?_
      rw [eupd_eupd]
      have := k z6 z7 z8 z9 z10 z11
      rw [cells_cons, if_pos hm, ← List.append_assoc] at this
      exact this
    · repeat walk_at "vm"
      refine from_inner hpt hpl (wv := wv) rds done _ _ _ _ _ _ _ (fun y hy => hv y (by simp [hy])) (by omega) hp fun z6 z7 z8 z9 z10 z11 => ?_
      have := k z6 z7 z8 z9 z10 z11
      rw [cells_cons, if_neg hm, List.nil_append] at this
      exact this
def fromL (w : Str) (pt : List Int) (rows : List Row) : List (Str × List Int) := rows.flatMap fun r => if r.w = w then cellsR r.rs pt else []
theorem from_outer {xc : XC} {d : Dn} {p : Addr} {A : EV} {w : Str} {pt : List Int} (hpt : pt ≠ []) (hpl : pt.length ≤ 50) : ∀ (rows : List Row) (done : List (Str × List Int)) (z3 z4 z5 z6 z7 z8 z9 z10 z11 : Option EV) (eh : Eh), (∀ r ∈ rows, ∀ x ∈ r.rs, x.v.length = pt.length) → done.length + (rows.map fun r => r.rs.length).sum ≤ 200 → eh p = some (.lst (done.map cellE)) →
    (∀ z3 z4 z5 z6 z7 z8 z9 z10 z11 : Option EV, d.nx [some A, some (.tup [.str w, .tup (pt.map .int)]), some (.ref p), z3, z4, z5, z6, z7, z8, z9, z10, z11] (eupd eh p (some (.lst ((done ++ fromL w pt rows).map cellE))))) →
    forL (.tp [.nm 3, .nm 4, .nm 5]) bd__law_from_3 (fun _ => True) xc d (rows.map rowE) [some A, some (.tup [.str w, .tup (pt.map .int)]), some (.ref p), z3, z4, z5, z6, z7, z8, z9, z10, z11] eh
  | [], done, z3, z4, z5, z6, z7, z8, z9, z10, z11, eh, _, _, hp, k => by
    have := k z3 z4 z5 z6 z7 z8 z9 z10 z11
    simp only [fromL, List.flatMap_nil, List.append_nil] at this
    rw [eupd_self hp] at this
    exact forL_nil trivial this
  | r :: rows, done, z3, z4, z5, z6, z7, z8, z9, z10, z11, eh, hv, hl, hp, k => by
    simp only [List.map_cons, List.sum_cons] at hl
    refine forL_cons trivial rfl ?_
    unfold bd__law_from_3
    repeat walk_at "vm"
    refine ix_i (xs := [.str w, .tup (pt.map .int)]) (z := .str w) rfl (by rfl) ?_
    repeat walk_at "vm"
    refine cD_i (fun hw => ?_) (fun hw => ?_)
    · repeat walk_at "vm"
      refine ⟨_, _, rfl, ?_⟩
      refine from_inner hpt hpl (wv := .non) r.rs done _ _ _ _ _ _ _ (hv r (by simp)) (by omega) hp fun z6 z7 z8 z9 z10 z11 => ?_
      have hc := cells_len r.rs pt
      refine from_outer hpt hpl rows (done ++ cellsR r.rs pt) _ _ _ _ _ _ _ _ _ _ (fun y hy => hv y (by simp [hy])) (by simp; omega) eupd_same fun z3 z4 z5 z6 z7 z8 z9 z10 z11 => ?_
      rw [eupd_eupd]
      have := k z3 z4 z5 z6 z7 z8 z9 z10 z11
      simp only [fromL, List.flatMap_cons, if_pos hw] at this
      rw [← List.append_assoc] at this
      exact this
    · repeat walk_at "vm"
      refine ⟨szl (by simp), ?_⟩
      refine ⟨_, _, rfl, ?_⟩
      refine forL_nil trivial ?_
      refine from_outer hpt hpl rows done _ _ _ _ _ _ _ _ _ _ (fun y hy => hv y (by simp [hy])) (by omega) hp fun z3 z4 z5 z6 z7 z8 z9 z10 z11 => ?_
      have := k z3 z4 z5 z6 z7 z8 z9 z10 z11
      simp only [fromL, List.flatMap_cons, if_neg hw, List.nil_append] at this
      exact this
theorem fz_cells {S : Addr → Bool} {eh : Eh} {k : Nat} (cs : List (Str × List Int)) : (cs.map cellE).map (fz S eh (k + 2)) = cs.map cellE := by
  rw [List.map_map]
  exact List.map_congr_left fun c _ => by
    show EV.tup [fz S eh (k + 1) (.str c.1), fz S eh (k + 1) (.tup (c.2.map .int))] = _
    rw [fz_tupI]; rfl
theorem from_fz {S : Addr → Bool} {xc : XC} {w : Str} {pt : List Int} {rows : List Row} {eh : Eh} {q : KE} (hS : S = nw eh) (hpt : pt ≠ []) (hpl : pt.length ≤ 50) (hv : ∀ r ∈ rows, ∀ x ∈ r.rs, x.v.length = pt.length) (hs : (rows.map fun r => r.rs.length).sum ≤ 100) (k : q (.lst ((fromL w pt rows).map cellE)) eh) :
    ([EV.lst (rows.map rowE), .tup [.str w, .tup (pt.map .int)]] ++ []).length = 2 ∧ FZ S fn__law_from xc ([EV.lst (rows.map rowE), .tup [.str w, .tup (pt.map .int)]] ++ []) eh q := by
  refine ⟨rfl, ?_⟩
  subst hS
  unfold FZ fn__law_from ms__law_from
  repeat walk_at "vm"
  refine ⟨szl (by simp), fun p hp => ?_⟩
  repeat walk_at "vm"
  refine ⟨_, _, rfl, ?_⟩
  refine from_outer hpt hpl rows [] _ _ _ _ _ _ _ _ _ _ hv (by simp; omega) (by rw [eupd_same]; rfl) fun z3 z4 z5 z6 z7 z8 z9 z10 z11 => ?_
  rw [eupd_eupd, List.nil_append]
  repeat walk_at "vm"
  dsimp only
  rw [fzl (k := 8) hp eupd_same (fz_cells (k := 6) _)]
  have e : drE (nw eh) (eupd eh p (some (.lst ((fromL w pt rows).map cellE)))) = eh := by
    funext c
    unfold drE nw eupd
    by_cases hc : c = p
    · subst hc; simp [hp]
    · cases e : eh c <;> simp [hc]
  rw [e]
  exact k
theorem fromL_eq {rows : List Row} {r : Row} {pt : List Int} (hn : (rows.map (·.w)).Nodup) (hr : r ∈ rows) : fromL r.w pt rows = cellsR r.rs pt := by
  induction rows with
  | nil => cases hr
  | cons r' rows ih =>
    rw [List.map_cons, List.nodup_cons] at hn
    have none_ : ∀ l : List Row, r'.w ∉ l.map (·.w) → fromL r'.w pt l = [] := fun l h => by
      unfold fromL
      rw [List.flatMap_eq_nil_iff]
      intro y hy
      exact if_neg fun (e : y.w = r'.w) => h (List.mem_map.mpr ⟨y, hy, e⟩)
    have cons_ : fromL r.w pt (r' :: rows) = (if r'.w = r.w then cellsR r'.rs pt else []) ++ fromL r.w pt rows := by simp [fromL]
    rw [cons_]
    rcases List.mem_cons.mp hr with rfl | h
    · rw [if_pos rfl, none_ rows hn.1, List.append_nil]
    · have : r'.w ≠ r.w := fun z => hn.1 (z ▸ List.mem_map.mpr ⟨r, h, rfl⟩)
      rw [if_neg this, List.nil_append, ih hn.2 h]

/-! ### cells of a system, ways -/
def cellOk (dims : Int) (rs : List Row) (c : Str × List Int) : Bool := decide (c.1 ∈ rs.map (·.w)) && (decide ((c.2.length : Int) = dims) && decide (0 ≤ mnI c.2))
def readsOf (rs : List Row) (w : Str) : List Rd := ((rs.find? fun r => decide (r.w = w)).map (·.rs)).getD []
def nextC (rs : List Row) (c : Str × List Int) : List (Str × List Int) := cellsR (readsOf rs c.1) c.2
theorem find_rowC : ∀ {rs : List Row} {w : Str}, w ∈ rs.map (·.w) → ∃ r ∈ rs, r.w = w ∧ rs.find? (fun r => decide (r.w = w)) = some r
  | r :: rs, w, h => by
    by_cases e : r.w = w
    · exact ⟨r, by simp, e, by simp [e]⟩
    · obtain ⟨r', h1, h2, h3⟩ := find_rowC (rs := rs) (w := w) (by simpa [Ne.symm e] using h)
      exact ⟨r', by simp [h1], h2, by simp [e, h3]⟩
theorem nextC_row {rs : List Row} {r : Row} {pt : List Int} (hn : (rs.map (·.w)).Nodup) (hr : r ∈ rs) : nextC rs (r.w, pt) = cellsR r.rs pt := by
  obtain ⟨r', h1, h2, h3⟩ := find_rowC (List.mem_map.mpr ⟨r, hr, rfl⟩ : r.w ∈ rs.map (·.w))
  have e : r' = r := by
    have : ∀ {l : List Row}, (l.map (·.w)).Nodup → r' ∈ l → r ∈ l → r' = r := by
      intro l
      induction l with
      | nil => intro _ h; cases h
      | cons x l ih =>
        intro hn a b
        rw [List.map_cons, List.nodup_cons] at hn
        rcases List.mem_cons.mp a with e1 | a1
        · rcases List.mem_cons.mp b with e2 | b2
          · rw [e1, e2]
          · exact absurd (List.mem_map.mpr ⟨r, b2, by rw [← e1, h2]⟩) hn.1
        · rcases List.mem_cons.mp b with e2 | b2
          · exact absurd (List.mem_map.mpr ⟨r', a1, by rw [← e2, h2]⟩) hn.1
          · exact ih hn.2 a1 b2
    exact this hn h1 hr
  unfold nextC readsOf
  rw [h3, e]; rfl
/-- what is known of a system's rows -/
structure SysR (dims : Int) (rs : List Row) : Prop where
  nd : (rs.map (·.w)).Nodup
  d : 1 ≤ dims ∧ dims ≤ 3
  v : ∀ r ∈ rs, ∀ x ∈ r.rs, (x.v.length : Int) = dims
  n : ∀ r ∈ rs, r.rs.length ≤ 12
  t : ∀ r ∈ rs, ∀ x ∈ r.rs, x.t ∈ rs.map (·.w)
theorem okD_cell (c : Str × List Int) : okD 2 (cellE c) = true := by
  show [EV.str c.1, .tup (c.2.map .int)].all (okD 1) = true
  simp only [List.all_cons, List.all_nil, Bool.and_true, okD_ints, okD_str]
theorem okD_cells (cs : List (Str × List Int)) : okD 3 (.lst (cs.map cellE)) = true := okD_map fun c _ => okD_cell c
theorem cellE_inj {c d : Str × List Int} (e : cellE c = cellE d) : c = d := by
  unfold cellE at e
  simp only [EV.tup.injEq, List.cons.injEq, EV.str.injEq, and_true] at e
  exact Prod.ext e.1 (ints_inj e.2)
theorem cellOk_ne {dims : Int} {rs : List Row} {c : Str × List Int} (hd : 1 ≤ dims) (h : cellOk dims rs c = true) : c.2 ≠ [] := fun z => by
  simp only [cellOk, Bool.and_eq_true, decide_eq_true_eq] at h
  rw [z] at h; simp at h; omega
theorem cell_fit {dims : Int} {rs : List Row} {c : Str × List Int} (R : SysR dims rs) (h : cellOk dims rs c = true) : ∃ r ∈ rs, r.w = c.1 ∧ CellFit dims rs r c.2 ∧ nextC rs c = cellsR r.rs c.2 := by
  have ne := cellOk_ne R.d.1 h
  simp only [cellOk, Bool.and_eq_true, decide_eq_true_eq] at h
  obtain ⟨r, hr, e⟩ := List.mem_map.mp h.1
  have hd := R.d
  refine ⟨r, hr, e, ⟨R.nd, hr, h.2.1, ne, h.2.2, by omega, fun x hx => by have := R.v r hr x hx; omega, by have := R.n r hr; omega⟩, ?_⟩
  have := nextC_row (pt := c.2) R.nd hr
  rw [e] at this; exact this
theorem nextC_len {dims : Int} {rs : List Row} {c : Str × List Int} (R : SysR dims rs) (h : cellOk dims rs c = true) : (nextC rs c).length ≤ 12 := by
  obtain ⟨r, hr, _, _, e⟩ := cell_fit R h
  rw [e]; exact Nat.le_trans (cells_len _ _) (R.n r hr)
theorem subL_len {us vs : List Int} : (subL us vs).length = min us.length vs.length := by simp [subL]
/-- what a cell reads is a cell -/
theorem nextC_ok {dims : Int} {rs : List Row} {c d : Str × List Int} (R : SysR dims rs) (h : cellOk dims rs c = true) (hd : d ∈ nextC rs c) : cellOk dims rs d = true := by
  obtain ⟨r, hr, ew, fit, e⟩ := cell_fit R h
  rw [e] at hd
  obtain ⟨x, hx, e2⟩ := List.mem_filterMap.mp hd
  split at e2
  · rename_i hm
    cases e2
    have l1 := fit.v x hx
    have l2 := fit.l
    simp only [cellOk, Bool.and_eq_true, decide_eq_true_eq]
    exact ⟨R.t r hr x hx, by rw [subL_len, l1, Nat.min_self]; exact l2, hm⟩
  · cases e2
theorem cellsF_fz {S : Addr → Bool} {xc : XC} {dims md : Int} {rs : List Row} {c : Str × List Int} {eh : Eh} {q : KE} (hS : S = nw eh) (R : SysR dims rs) (h : cellOk dims rs c = true) (k : q (.lst ((nextC rs c).map cellE)) eh) :
    FZ S fn_cells_from xc [sysE dims md rs, .str c.1, .tup (c.2.map .int)] eh q := by
  subst hS
  obtain ⟨r, hr, ew, fit, e⟩ := cell_fit R h
  rw [← ew]
  unfold FZ
  refine cells_ok fit fun p hp => ?_
  exact fin_list (n := 3) (.new hp) hp eupd_same (okB_of (okD_cells _)) (by rw [← e]; exact k)
theorem SysFit.toR {dims md : Int} {rows : List Row} (h : SysFit dims md rows) : SysR dims (sortR rows) := by
  have hp := sortR_perm rows
  refine ⟨(hp.map (·.w)).nodup_iff.mpr h.nd, h.d, fun r hr x hx => ((h.r r (hp.mem_iff.mp hr)).rd x hx).l, fun r hr => ?_, fun r hr x hx => (hp.map (·.w)).mem_iff.mpr (h.tg r (hp.mem_iff.mp hr) x hx)⟩
  exact Nat.le_trans (le_sum (List.mem_map.mpr ⟨r, hp.mem_iff.mp hr, rfl⟩)) h.t
/-- the law's own reading of the rows -/
theorem fromL_next {dims md : Int} {rows : List Row} {c : Str × List Int} (h : SysFit dims md rows) (hc : c.1 ∈ rows.map (·.w)) : fromL c.1 c.2 rows = nextC (sortR rows) c := by
  obtain ⟨r, hr, e⟩ := List.mem_map.mp hc
  rw [← e, fromL_eq h.nd hr]
  have hp := sortR_perm rows
  have := nextC_row (pt := c.2) h.toR.nd (hp.mem_iff.mpr hr)
  rw [e] at this; exact this.symm
theorem from_fz2 {S : Addr → Bool} {xc : XC} {dims md : Int} {rows : List Row} {c : Str × List Int} {eh : Eh} {q : KE} (hS : S = nw eh) (h : SysFit dims md rows) (hc : cellOk dims (sortR rows) c = true) (k : q (.lst ((nextC (sortR rows) c).map cellE)) eh) :
    ([EV.lst (rows.map rowE), cellE c] ++ []).length = 2 ∧ FZ S fn__law_from xc ([EV.lst (rows.map rowE), cellE c] ++ []) eh q := by
  have hp := sortR_perm rows
  have hc' := hc
  simp only [cellOk, Bool.and_eq_true, decide_eq_true_eq] at hc'
  have hd := h.d
  refine from_fz hS (cellOk_ne h.d.1 hc) (by omega) (fun r hr x hx => ?_) (by have := h.t; omega) ?_
  · have := ((h.r r hr).rd x hx).l
    omega
  · rw [fromL_next h ((hp.map (·.w)).mem_iff.mp hc'.1)]; exact k

/-! ### is_cell, is_way -/
/-! ### the cells of a system: what is read grows; boxes -/
theorem belowP_tr : ∀ {p q r : List Int}, p.length = q.length → q.length = r.length → belowP p q = true → belowP q r = true → belowP p r = true
  | [], _, _, _, _, _, _ => by simp [belowP]
  | x :: p, [], _, h, _, _, _ => by simp at h
  | x :: p, y :: q, [], _, h, _, _ => by simp at h
  | x :: p, y :: q, z :: r, h1, h2, e1, e2 => by
    simp only [List.length_cons, Nat.add_right_cancel_iff] at h1 h2
    have ih := @belowP_tr p q r h1 h2
    unfold belowP at e1 e2 ih ⊢
    simp only [List.zip_cons_cons, List.all_cons, Bool.and_eq_true, decide_eq_true_eq] at e1 e2 ⊢
    exact ⟨Int.le_trans e1.1 e2.1, ih e1.2 e2.2⟩
theorem belowP_sub : ∀ {p q v : List Int}, p.length = q.length → belowP p q = true → belowP (subL p v) (subL q v) = true
  | [], [], _, _, _ => by simp [belowP, subL]
  | [], _ :: _, _, h, _ => by simp at h
  | _ :: _, [], _, h, _ => by simp at h
  | x :: p, y :: q, [], _, _ => by simp [belowP, subL]
  | x :: p, y :: q, w :: v, h, e => by
    simp only [List.length_cons, Nat.add_right_cancel_iff] at h
    have ih := @belowP_sub p q v h
    unfold belowP subL at ih ⊢
    unfold belowP at e
    simp only [List.zip_cons_cons, List.all_cons, Bool.and_eq_true, decide_eq_true_eq] at e
    simp only [List.zipWith_cons_cons, List.zip_cons_cons, List.all_cons, Bool.and_eq_true, decide_eq_true_eq]
    exact ⟨by omega, ih e.2⟩
theorem belowP_nn : ∀ {p q : List Int}, p.length = q.length → belowP p q = true → (∀ n ∈ p, 0 ≤ n) → ∀ n ∈ q, 0 ≤ n
  | [], [], _, _, _ => by simp
  | [], _ :: _, h, _, _ => by simp at h
  | _ :: _, [], h, _, _ => by simp at h
  | x :: p, y :: q, h, e, hp => by
    simp only [List.length_cons, Nat.add_right_cancel_iff] at h
    have ih := @belowP_nn p q h
    unfold belowP at e ih
    simp only [List.zip_cons_cons, List.all_cons, Bool.and_eq_true, decide_eq_true_eq] at e
    intro n hn
    rcases List.mem_cons.mp hn with rfl | hn
    · have := hp x (by simp); omega
    · exact ih e.2 (fun m hm => hp m (by simp [hm])) n hn
theorem cellsR_mem {rds : List Rd} {pt : List Int} {c : Cel} : c ∈ cellsR rds pt ↔ ∃ x ∈ rds, 0 ≤ mnI (subL pt x.v) ∧ c = (x.t, subL pt x.v) := by
  unfold cellsR
  rw [List.mem_filterMap]
  constructor
  · rintro ⟨x, hx, e⟩
    split at e
    · cases e; exact ⟨x, hx, by assumption, rfl⟩
    · cases e
  · rintro ⟨x, hx, h, rfl⟩
    exact ⟨x, hx, by rw [if_pos h]⟩
theorem cellOk_len {dims : Int} {rs : List Row} {c : Cel} (h : cellOk dims rs c = true) : (c.2.length : Int) = dims ∧ 0 ≤ mnI c.2 ∧ c.1 ∈ rs.map (·.w) := by
  simp only [cellOk, Bool.and_eq_true, decide_eq_true_eq] at h
  exact ⟨h.2.1, h.2.2, h.1⟩
theorem mon_next {dims : Int} {rs : List Row} (R : SysR dims rs) : Mon (nextC rs) (fun c => cellOk dims rs c = true) := by
  refine ⟨fun a c ha hc => nextC_ok R ha hc, fun a b c ha hb e hc => ?_, fun a b c ha hb hc e1 e2 => ⟨e1.1.trans e2.1, ?_⟩⟩
  · obtain ⟨a1, a2, a3⟩ := cellOk_len ha
    obtain ⟨b1, b2, b3⟩ := cellOk_len hb
    have hl : a.2.length = b.2.length := by omega
    have hcc := nextC_ok R ha hc
    obtain ⟨c1, c2, c3⟩ := cellOk_len hcc
    unfold nextC at hc
    obtain ⟨x, hx, hm, rfl⟩ := cellsR_mem.mp hc
    have eb := belowP_sub (v := x.v) hl e.2
    have ll : (subL a.2 x.v).length = (subL b.2 x.v).length := by rw [subL_len, subL_len, hl]
    have ne : subL a.2 x.v ≠ [] := fun z => by
      have := R.d
      dsimp only at c1
      rw [z] at c1; simp at c1; omega
    have hm2 : 0 ≤ mnI (subL b.2 x.v) := mnI_nonneg (belowP_nn ll eb ((mnI_iff ne).mp hm))
    exact ⟨(x.t, subL b.2 x.v), by unfold nextC; rw [← e.1]; exact cellsR_mem.mpr ⟨x, hx, hm2, rfl⟩, rfl, eb⟩
  · have h1 := (cellOk_len ha).1
    have h2 := (cellOk_len hb).1
    have h3 := (cellOk_len hc).1
    exact belowP_tr (by omega) (by omega) e1.2 e2.2
/-- the vectors of a system have nothing below -X -/
def VecM (rs : List Row) (X : Nat) : Prop := ∀ r ∈ rs, ∀ x ∈ r.rs, ∀ v ∈ x.v, -(X : Int) ≤ v
theorem next_at {dims : Int} {rs : List Row} (R : SysR dims rs) {a c : Cel} (hc : c ∈ nextC rs a) : ∃ r ∈ rs, ∃ x ∈ r.rs, 0 ≤ mnI (subL a.2 x.v) ∧ c = (x.t, subL a.2 x.v) ∧ x.t ∈ rs.map (·.w) ∧ (x.v.length : Int) = dims := by
  unfold nextC at hc
  obtain ⟨x, hx, hm, e⟩ := cellsR_mem.mp hc
  unfold readsOf at hx
  cases h : rs.find? fun r => decide (r.w = a.1) with
  | none => rw [h] at hx; simp at hx
  | some r =>
    rw [h] at hx
    have hx : x ∈ r.rs := hx
    have hr := List.mem_of_find?_eq_some h
    exact ⟨r, hr, x, hx, hm, e, R.t r hr x hx, R.v r hr x hx⟩
def bx1 (names : List Str) (M : Nat) : List Cel := names.flatMap fun w => (List.range (M + 1)).map fun i : Nat => (w, [(i : Int)])
def bx2 (names : List Str) (M : Nat) : List Cel := names.flatMap fun w => (List.range (M + 1)).flatMap fun i : Nat => (List.range (M + 1)).map fun j : Nat => (w, [(i : Int), (j : Int)])
theorem flat_cst {α β : Type} {f : α → List β} {n : Nat} : ∀ {l : List α}, (∀ a ∈ l, (f a).length = n) → (l.flatMap f).length = l.length * n
  | [], _ => by simp
  | a :: l, h => by
    rw [List.flatMap_cons, List.length_append, h a (by simp), flat_cst fun b hb => h b (by simp [hb]), List.length_cons, Nat.add_mul, Nat.one_mul, Nat.add_comm]
theorem bx1_len (names : List Str) (M : Nat) : (bx1 names M).length = names.length * (M + 1) := flat_cst (f := fun w : Str => (List.range (M + 1)).map fun i : Nat => (w, [(i : Int)])) (n := M + 1) fun _ _ => by simp
theorem bx2_len (names : List Str) (M : Nat) : (bx2 names M).length = names.length * ((M + 1) * (M + 1)) := flat_cst (f := fun w : Str => (List.range (M + 1)).flatMap fun i : Nat => (List.range (M + 1)).map fun j : Nat => (w, [(i : Int), (j : Int)])) (n := (M + 1) * (M + 1)) fun w _ => by
  have := flat_cst (f := fun i : Nat => (List.range (M + 1)).map fun j : Nat => (w, [(i : Int), (j : Int)])) (n := M + 1) (l := List.range (M + 1)) fun _ _ => by simp
  rw [this, List.length_range]
theorem two_of {l : List Int} (h : l.length = 2) : ∃ a b, l = [a, b] := by
  match l, h with
  | [a, b], _ => exact ⟨a, b, rfl⟩
/-- how far the search goes from a cell -/
structure Lim (nx : Cel → List Cel) (s : Cel) (bx : List Cel) (B : Nat) : Prop where
  l : ∀ W, Wy nx s W → W.length ≤ B ∧ ∀ c ∈ W, c ∈ bx
theorem lim1 {rs : List Row} {s : Cel} {X P0 N : Nat} (R : SysR 1 rs) (hX : VecM rs X) (hs : cellOk 1 rs s = true) (hp : ∀ n ∈ s.2, n ≤ (P0 : Int)) (hN : rs.length ≤ N) : Lim (nextC rs) s (bx1 (rs.map (·.w)) (P0 + X * N)) (N * (P0 + X * N + 1)) := by
  refine ⟨fun W hW => ?_⟩
  obtain ⟨s1, s2, s3⟩ := cellOk_len hs
  obtain ⟨n, es⟩ : ∃ n, s.2 = [n] := List.length_eq_one_iff.mp (by omega)
  have hn0 : 0 ≤ n := (mnI_iff (ns := s.2) (by rw [es]; simp)).mp s2 n (by rw [es]; simp)
  have hn1 : n ≤ P0 := hp n (by rw [es]; simp)
  obtain ⟨b1, b2⟩ := wy_bound1 (names := rs.map (·.w)) (X := X) (P0 := P0) s3 ⟨n.toNat, by omega, by rw [es, Int.toNat_of_nonneg hn0]⟩ (fun a c hc p hp => by
    obtain ⟨r, hr, x, hx, hm, rfl, ht, hv⟩ := next_at R hc
    obtain ⟨v, ev⟩ : ∃ v, x.v = [v] := List.length_eq_one_iff.mp (by omega)
    have hv2 := hX r hr x hx v (by rw [ev]; simp)
    have e1 : subL a.2 x.v = [(p : Int) - v] := by rw [hp, ev]; rfl
    rw [e1] at hm
    have hm0 : 0 ≤ (p : Int) - v := (mnI_iff (ns := [(p : Int) - v]) (by simp)).mp hm _ (by simp)
    refine ⟨ht, ((p : Int) - v).toNat, by omega, ?_⟩
    show subL a.2 x.v = _
    rw [e1, Int.toNat_of_nonneg hm0]) hW
  simp only [List.length_map] at b1 b2
  have hk := Nat.mul_le_mul_left X hN
  have hk2 : P0 + X * rs.length + 1 ≤ P0 + X * N + 1 := by omega
  refine ⟨Nat.le_trans b1 (Nat.mul_le_mul hN hk2), fun c hc => ?_⟩
  obtain ⟨c1, p, hp2, e⟩ := b2 c hc
  unfold bx1
  refine List.mem_flatMap.mpr ⟨c.1, c1, List.mem_map.mpr ⟨p, List.mem_range.mpr (by omega), ?_⟩⟩
  rw [← e]
theorem lim2 {rs : List Row} {s : Cel} {X P0 M N : Nat} (R : SysR 2 rs) (hX : VecM rs X) (hs : cellOk 2 rs s = true) (hp : ∀ n ∈ s.2, n ≤ (P0 : Int)) (hN : rs.length ≤ N) (hM : P0 + X * linK X P0 N ≤ M) : Lim (nextC rs) s (bx2 (rs.map (·.w)) M) (linK X P0 N * (M + 1)) := by
  refine ⟨fun W hW => ?_⟩
  obtain ⟨s1, s2, s3⟩ := cellOk_len hs
  obtain ⟨n, m, es⟩ : ∃ n m, s.2 = [n, m] := two_of (by omega)
  have hne : s.2 ≠ [] := by rw [es]; simp
  have hn0 : 0 ≤ n := (mnI_iff hne).mp s2 n (by rw [es]; simp)
  have hm0 : 0 ≤ m := (mnI_iff hne).mp s2 m (by rw [es]; simp)
  have hn1 : n ≤ P0 := hp n (by rw [es]; simp)
  have hm1 : m ≤ P0 := hp m (by rw [es]; simp)
  have hk := Nat.mul_le_mul_left X (linK_le X P0 hN)
  obtain ⟨b1, b2⟩ := wy_bound2 (names := rs.map (·.w)) (X := X) (P0 := P0) (M := M) (by rw [List.length_map]; omega) s3 ⟨n.toNat, m.toNat, by omega, by omega, by rw [es, Int.toNat_of_nonneg hn0, Int.toNat_of_nonneg hm0]⟩ (fun a c hc p q hp => by
    obtain ⟨r, hr, x, hx, hm, rfl, ht, hv⟩ := next_at R hc
    obtain ⟨v, w, ev⟩ : ∃ v w, x.v = [v, w] := two_of (by omega)
    have hv2 := hX r hr x hx v (by rw [ev]; simp)
    have hw2 := hX r hr x hx w (by rw [ev]; simp)
    have e1 : subL a.2 x.v = [(p : Int) - v, (q : Int) - w] := by rw [hp, ev]; rfl
    rw [e1] at hm
    have h1 : 0 ≤ (p : Int) - v := (mnI_iff (ns := [(p : Int) - v, (q : Int) - w]) (by simp)).mp hm _ (by simp)
    have h2 : 0 ≤ (q : Int) - w := (mnI_iff (ns := [(p : Int) - v, (q : Int) - w]) (by simp)).mp hm _ (by simp)
    refine ⟨ht, ((p : Int) - v).toNat, ((q : Int) - w).toNat, by omega, by omega, ?_⟩
    show subL a.2 x.v = _
    rw [e1, Int.toNat_of_nonneg h1, Int.toNat_of_nonneg h2]) hW
  simp only [List.length_map] at b1
  refine ⟨Nat.le_trans b1 (Nat.mul_le_mul_right _ (linK_le X P0 hN)), fun c hc => ?_⟩
  obtain ⟨c1, x, y, hx, hy, e⟩ := b2 c hc
  unfold bx2
  refine List.mem_flatMap.mpr ⟨c.1, c1, List.mem_flatMap.mpr ⟨x, List.mem_range.mpr (by omega), List.mem_map.mpr ⟨y, List.mem_range.mpr (by omega), ?_⟩⟩⟩
  rw [← e]
/-! cells as keys -/
def cK (c : Cel) : NestedKey := .tup [.text c.1, .tup (c.2.map .num)]
theorem keysN_ints : ∀ ns : List Int, keysN (ns.map .int) = some (ns.map .num)
  | [] => rfl
  | n :: ns => by
    show (match keyN (.int n), keysN (ns.map .int) with | some k, some ks => some (k :: ks) | _, _ => none) = _
    rw [keysN_ints ns]; rfl
theorem keyN_cell (c : Cel) : keyN (cellE c) = some (cK c) := by
  have e : keyN (.tup (c.2.map .int)) = some (.tup (c.2.map .num)) := by
    show (keysN (c.2.map .int)).map NestedKey.tup = _
    rw [keysN_ints]; rfl
  show (keysN [.str c.1, .tup (c.2.map .int)]).map NestedKey.tup = _
  have : keysN [.str c.1, .tup (c.2.map .int)] = some [.text c.1, .tup (c.2.map .num)] := by
    show (match keyN (.str c.1), keysN [.tup (c.2.map .int)] with | some k, some ks => some (k :: ks) | _, _ => none) = _
    have : keysN [.tup (c.2.map .int)] = some [.tup (c.2.map .num)] := by
      show (match keyN (.tup (c.2.map .int)), keysN [] with | some k, some ks => some (k :: ks) | _, _ => none) = _
      rw [e]; rfl
    rw [this]; rfl
  rw [this]; rfl
theorem depth_nums : ∀ ns : List Int, NestedKey.depthAll (ns.map .num) ≤ 1
  | [] => by decide
  | n :: ns => by
    have := depth_nums ns
    rw [List.map_cons, NestedKey.depthAll]
    have : (NestedKey.num n).depth ≤ 1 := by unfold NestedKey.depth; omega
    omega
theorem cK_depth (c : Cel) : (cK c).depth ≤ 8 := by
  have h := depth_nums c.2
  have h1 : (NestedKey.text c.1).depth ≤ 1 := by unfold NestedKey.depth; omega
  have h2 : (NestedKey.tup (c.2.map .num)).depth ≤ 2 := by rw [NestedKey.depth]; omega
  have h3 : NestedKey.depthAll [.text c.1, .tup (c.2.map .num)] ≤ 2 := by
    rw [NestedKey.depthAll, NestedKey.depthAll]
    have : NestedKey.depthAll [] ≤ 1 := by decide
    omega
  show (NestedKey.tup [.text c.1, .tup (c.2.map .num)]).depth ≤ 8
  rw [NestedKey.depth]
  omega
theorem nums_inj : ∀ {a b : List Int}, a.map NestedKey.num = b.map NestedKey.num → a = b
  | [], [], _ => rfl
  | [], _ :: _, h => by cases h
  | _ :: _, [], h => by cases h
  | x :: a, y :: b, h => by simp only [List.map_cons, List.cons.injEq, NestedKey.num.injEq] at h; rw [h.1, nums_inj h.2]
theorem cK_inj {c d : Cel} (h : cK c = cK d) : c = d := by
  unfold cK at h
  simp only [NestedKey.tup.injEq, List.cons.injEq, NestedKey.text.injEq, and_true] at h
  exact Prod.ext h.1 (nums_inj h.2)
theorem evK_nums : ∀ ns : List Int, evKs (ns.map .num) = ns.map .int
  | [] => rfl
  | n :: ns => by show EV.int n :: evKs (ns.map .num) = _; rw [evK_nums ns]; rfl
theorem evK_cell (c : Cel) : evK (cK c) = cellE c := by
  show EV.tup [.str c.1, .tup (evKs (c.2.map .num))] = _
  rw [evK_nums]; rfl
/-- a dict from cells -/
def celD (f : Cel → EV) (kn : List Cel) : List (NestedKey × EV) := kn.map fun c => (cK c, f c)
theorem getN_cell {f : Cel → EV} {c : Cel} : ∀ {kn : List Cel}, getN (celD f kn) (cK c) = if c ∈ kn then some (f c) else none
  | [] => rfl
  | d :: kn => by
    have ih := @getN_cell f c kn
    unfold getN celD at ih ⊢
    rw [List.map_cons]
    by_cases h : d = c
    · subst h
      rw [List.find?_cons_of_pos (by simp), if_pos (by simp)]; rfl
    · rw [List.find?_cons_of_neg (by simpa using fun e => h (cK_inj e)), ih]
      have : c ∈ d :: kn ↔ c ∈ kn := by rw [List.mem_cons]; exact ⟨fun h' => h'.resolve_left (Ne.symm h), .inr⟩
      simp only [this]
theorem getN_some {f : Cel → EV} {c : Cel} {kn : List Cel} : (getN (celD f kn) (cK c)).isSome = decide (c ∈ kn) := by
  rw [getN_cell]; split <;> simp_all
theorem putN_cell {f : Cel → EV} {c : Cel} {kn : List Cel} (h : c ∉ kn) : putN (celD f kn) (cK c) (f c) = celD f (kn ++ [c]) := by
  unfold putN
  rw [getN_some, decide_eq_false h]
  simp [celD]

/-! ### is_below, earlier_in, search, is_ready: the walk -/
theorem zipI_c (us vs : List Int) : ((us.map EV.int).zip (vs.map EV.int)).map (fun p => EV.tup [p.1, p.2]) = (us.zip vs).map fun p => EV.tup [.int p.1, .int p.2] := by
  rw [List.zip_map, List.map_map]; rfl
theorem below_fz {S : Addr → Bool} {xc : XC} {us vs : List Int} {eh : Eh} {q : KE} (hS : S = nw eh) (hl : us.length ≤ 100) (k : q (.bl (belowP us vs)) eh) : ([EV.tup (us.map .int), .tup (vs.map .int)] ++ []).length = 2 ∧ FZ S fn_is_below xc ([EV.tup (us.map .int), .tup (vs.map .int)] ++ []) eh q := by
  refine ⟨rfl, ?_⟩
  subst hS
  unfold FZ fn_is_below ms_is_below
  walk_at "go"
  rw [zipI_c]
  refine comp_map (c := fun y : Int × Int => EV.tup [.int y.1, .int y.2]) (f := fun y => .bl (decide (y.1 ≤ y.2))) trivial (by simp; omega) (fun u hu => asgx_i rfl fun q' hq' => ?_) ?_
  · walk_at "go"
    exact hq'
  walk_at "go"
  refine all_i (bs := (us.zip vs).map fun y => decide (y.1 ≤ y.2)) (by simp [lstE] <;> rfl) ?_
  refine fin_data (n := 0) .refl rfl ?_
  have e : ((us.zip vs).map fun y => decide (y.1 ≤ y.2)).all id = belowP us vs := by unfold belowP; rw [List.all_map]; rfl
  rw [e]; exact k
instance (a b : Cel) : Decidable (epr a b) := by unfold epr; exact inferInstance
theorem early_loop {xc : XC} {d : Dn} {A : EV} {c : Cel} {eh : Eh} {ok : Eh → Prop} (hok : ok eh) : ∀ (cs : List Cel) (g : Nat → Nat) (z3 z4 z5 : Option EV), (∀ b ∈ cs, b.2.length ≤ 100) →
    ((∀ b ∈ cs, ¬ epr b c) → ∀ z3 z4 z5 : Option EV, d.nx [some A, some (.str c.1), some (.tup (c.2.map .int)), z3, z4, z5] eh) → (∀ (n : Nat) (b : Cel), cs[n]? = some b → epr b c → (∀ m < n, ∀ b', cs[m]? = some b' → ¬ epr b' c) → d.rt (.int (g n : Nat)) eh) →
    forL (.tp [.nm 3, .tp [.nm 4, .nm 5]]) bd_earlier_in_1 ok xc d ((cs.map cellE).mapIdx fun i x => .tup [.int (g i : Nat), x]) [some A, some (.str c.1), some (.tup (c.2.map .int)), z3, z4, z5] eh
  | [], g, z3, z4, z5, _, k0, _ => forL_nil hok (k0 (by simp) _ _ _)
  | b :: cs, g, z3, z4, z5, hl, k0, k1 => by
    rw [List.map_cons, List.mapIdx_cons]
    have ih := early_loop (xc := xc) (d := d) (A := A) (c := c) hok cs (fun i => g (i + 1)) (some (.int (g 0 : Nat))) (some (.str b.1)) (some (.tup (b.2.map .int))) (fun x hx => hl x (by simp [hx]))
    have go : ¬ epr b c → forL (.tp [.nm 3, .tp [.nm 4, .nm 5]]) bd_earlier_in_1 ok xc d ((cs.map cellE).mapIdx fun i x => .tup [.int (g (i + 1) : Nat), x]) [some A, some (.str c.1), some (.tup (c.2.map .int)), some (.int (g 0 : Nat)), some (.str b.1), some (.tup (b.2.map .int))] eh := fun hn => by
      refine ih (fun h z3 z4 z5 => k0 (fun x hx => ?_) z3 z4 z5) fun n x hx he hm => k1 (n + 1) x (by simpa using hx) he fun m hm' b' hb' => ?_
      · rcases List.mem_cons.mp hx with rfl | hx
        · exact hn
        · exact h x hx
      · cases m with
        | zero => simp at hb'; subst hb'; exact hn
        | succ m => exact hm m (by omega) b' (by simpa using hb')
    refine forL_cons hok rfl ?_
    unfold bd_earlier_in_1
    walk_at "go"
    refine cD_i (fun hw => ?_) (fun hw => ?_)
    · walk_at "go"
      refine below_fz rfl (hl b (by simp)) ?_
      walk_at "go"
      refine cB_i (fun he => ?_) (fun he => ?_)
      · walk_at "go"
        exact k1 0 b rfl ⟨hw, he⟩ fun m hm => absurd hm (by omega)
      · walk_at "go"
        exact go fun h => by rw [h.2] at he; cases he
    · walk_at "go"
      exact go fun h => hw h.1
theorem early_fz {S : Addr → Bool} {xc : XC} {x : EV} {cs : List Cel} {c : Cel} {eh : Eh} {q : KE} (hS : S = nw eh) (hx : froE eh x = .lst (cs.map cellE)) (hl : ∀ b ∈ cs, b.2.length ≤ 100) (k0 : (∀ b ∈ cs, ¬ epr b c) → q .non eh)
    (k1 : ∀ (n : Nat) (b : Cel), cs[n]? = some b → epr b c → (∀ m < n, ∀ b', cs[m]? = some b' → ¬ epr b' c) → q (.int (n : Nat)) eh) :
    ([x, .str c.1, .tup (c.2.map .int)] ++ []).length = 3 ∧ FZ S fn_earlier_in xc ([x, .str c.1, .tup (c.2.map .int)] ++ []) eh q := by
  refine ⟨rfl, ?_⟩
  subst hS
  unfold FZ fn_earlier_in ms_earlier_in
  walk_at "go"
  obtain ⟨ok, e, o, _⟩ := fro_src hx
  refine ⟨x, _, ok, rfl, e, ?_⟩
  refine early_loop o cs (fun i => i) _ _ _ hl (fun h z3 z4 z5 => ?_) fun n b hb he hm => ?_
  · walk_at "go"
    exact fin_data (n := 0) .refl rfl (k0 h)
  · exact fin_data (n := 0) .refl rfl (k1 n b hb he hm)
/-- the heap of the search -/
structure SeH (eh0 eh : Eh) (k pw pl a0 : Addr) (kn : List Cel) (F : List Frm) (w : List Cel) : Prop where
  hk : eh k = some (.dN (celD (fun _ => .bl true) kn))
  hw : eh pw = some (.lst ((F.map (·.1)).reverse.map cellE))
  hl : eh pl = some (.lst ((F.map fun f => EV.ref f.2.1).reverse))
  h0 : eh a0 = some (.lst (w.map cellE))
  hf : ∀ f ∈ F, eh f.2.1 = some (.lst (f.2.2.map cellE))
  nd : (pw :: pl :: a0 :: F.map (·.2.1)).Nodup
  n0 : ∀ a ∈ pw :: pl :: a0 :: F.map (·.2.1), eh0 a = none
  kk : eh0 k ≠ none
  kp : ∀ a, eh0 a ≠ none → a ≠ k → eh a = eh0 a
section
variable {eh0 eh : Eh} {k pw pl a0 : Addr} {kn : List Cel} {F : List Frm} {w : List Cel}
theorem SeH.ne (H : SeH eh0 eh k pw pl a0 kn F w) : pw ≠ pl ∧ pw ≠ a0 ∧ pl ≠ a0 ∧ k ≠ pw ∧ k ≠ pl ∧ k ≠ a0 ∧ ∀ f ∈ F, f.2.1 ≠ pw ∧ f.2.1 ≠ pl ∧ f.2.1 ≠ a0 ∧ f.2.1 ≠ k := by
  have h := H.nd
  simp only [List.nodup_cons, List.mem_cons, not_or] at h
  obtain ⟨⟨h1, h2, h3⟩, ⟨h4, h5⟩, h6, _⟩ := h
  have kne : ∀ a ∈ pw :: pl :: a0 :: F.map (·.2.1), k ≠ a := fun a ha z => H.kk (by rw [z]; exact H.n0 a ha)
  refine ⟨h1, h2, h4, kne _ (by simp), kne _ (by simp), kne _ (by simp), fun f hf => ?_⟩
  have hm : f.2.1 ∈ F.map (·.2.1) := List.mem_map.mpr ⟨f, hf, rfl⟩
  exact ⟨fun z => h3 (z ▸ hm), fun z => h5 (z ▸ hm), fun z => h6 (z ▸ hm), fun z => kne _ (List.mem_cons_of_mem _ (List.mem_cons_of_mem _ (List.mem_cons_of_mem _ hm))) z.symm⟩
/-- the last cell is left -/
theorem SeH.pop {f : Frm} (H : SeH eh0 eh k pw pl a0 kn (f :: F) w) (kn' : List Cel) :
    SeH eh0 (eupd (eupd (eupd eh pw (some (.lst ((F.map (·.1)).reverse.map cellE)))) k (some (.dN (celD (fun _ => .bl true) kn')))) pl (some (.lst ((F.map fun f => EV.ref f.2.1).reverse)))) k pw pl f.2.1 kn' F f.2.2 := by
  obtain ⟨n1, n2, n3, n4, n5, n6, n7⟩ := H.ne
  obtain ⟨m1, m2, m3, m4⟩ := n7 f (by simp)
  refine ⟨by rw [eupd_ne n5, eupd_same], by rw [eupd_ne n1, eupd_ne (Ne.symm n4), eupd_same], eupd_same, by rw [eupd_ne m2, eupd_ne m4, eupd_ne m1]; exact H.hf f (by simp), fun g hg => ?_, ?_, fun a ha => H.n0 a ?_, H.kk, fun a ha hk => ?_⟩
  · obtain ⟨l1, l2, l3, l4⟩ := n7 g (by simp [hg])
    rw [eupd_ne l2, eupd_ne l4, eupd_ne l1]; exact H.hf g (by simp [hg])
  · have h := H.nd
    simp only [List.map_cons, List.nodup_cons, List.mem_cons, not_or] at h ⊢
    exact ⟨⟨h.1.1, h.1.2.2.1, h.1.2.2.2⟩, ⟨h.2.1.2.1, h.2.1.2.2⟩, h.2.2.2⟩
  · simp only [List.map_cons, List.mem_cons] at ha ⊢
    rcases ha with ha | ha | ha | ha
    · exact .inl ha
    · exact .inr (.inl ha)
    · exact .inr (.inr (.inr (.inl ha)))
    · exact .inr (.inr (.inr (.inr ha)))
  · have np : a ≠ pw := fun z => ha (by rw [z]; exact H.n0 pw (by simp))
    have nl : a ≠ pl := fun z => ha (by rw [z]; exact H.n0 pl (by simp))
    rw [eupd_ne nl, eupd_ne hk, eupd_ne np]; exact H.kp a ha hk
/-- what waits gets less -/
theorem SeH.less (H : SeH eh0 eh k pw pl a0 kn F w) (w' : List Cel) : SeH eh0 (eupd eh a0 (some (.lst (w'.map cellE)))) k pw pl a0 kn F w' := by
  obtain ⟨n1, n2, n3, n4, n5, n6, n7⟩ := H.ne
  refine ⟨by rw [eupd_ne n6]; exact H.hk, by rw [eupd_ne n2]; exact H.hw, by rw [eupd_ne n3]; exact H.hl, eupd_same, fun g hg => ?_, H.nd, H.n0, H.kk, fun a ha hk => ?_⟩
  · rw [eupd_ne (n7 g hg).2.2.1]; exact H.hf g hg
  · rw [eupd_ne fun z => ha (by rw [z]; exact H.n0 a0 (by simp))]; exact H.kp a ha hk
/-- one cell more on the way -/
theorem SeH.push (H : SeH eh0 eh k pw pl a0 kn F w) {l : Cel} {p : Addr} (w2 : List Cel) (hp : (eupd (eupd eh pw (some (.lst (((F.map (·.1)).reverse ++ [l]).map cellE)))) pl (some (.lst ((F.map fun f => EV.ref f.2.1).reverse ++ [.ref a0])))) p = none) :
    SeH eh0 (eupd (eupd (eupd eh pw (some (.lst (((F.map (·.1)).reverse ++ [l]).map cellE)))) pl (some (.lst ((F.map fun f => EV.ref f.2.1).reverse ++ [.ref a0])))) p (some (.lst (w2.map cellE)))) k pw pl p kn ((l, a0, w) :: F) w2 := by
  obtain ⟨n1, n2, n3, n4, n5, n6, n7⟩ := H.ne
  have p1 : p ≠ pl := fun z => by rw [z, eupd_same] at hp; cases hp
  rw [eupd_ne p1] at hp
  have p2 : p ≠ pw := fun z => by rw [z, eupd_same] at hp; cases hp
  rw [eupd_ne p2] at hp
  have p3 : p ≠ a0 := fun z => by rw [z, H.h0] at hp; cases hp
  have p4 : p ≠ k := fun z => by rw [z, H.hk] at hp; cases hp
  have p5 : ∀ f ∈ F, f.2.1 ≠ p := fun f hf z => by have := H.hf f hf; rw [z, hp] at this; cases this
  have p0 : eh0 p = none := by
    cases e : eh0 p with
    | none => rfl
    | some o => have := H.kp p (by rw [e]; simp) p4; rw [hp, e] at this; cases this
  refine ⟨by rw [eupd_ne (Ne.symm p4), eupd_ne n5, eupd_ne n4]; exact H.hk, by rw [eupd_ne (Ne.symm p2), eupd_ne n1, eupd_same]; simp, by rw [eupd_ne (Ne.symm p1), eupd_same]; simp, eupd_same, fun g hg => ?_, ?_, fun a ha => ?_, H.kk, fun a ha hk => ?_⟩
  · rcases List.mem_cons.mp hg with rfl | hg
    · rw [eupd_ne (Ne.symm p3), eupd_ne (Ne.symm n3), eupd_ne (Ne.symm n2)]; exact H.h0
    · obtain ⟨l1, l2, l3, l4⟩ := n7 g hg
      rw [eupd_ne (p5 g hg), eupd_ne l2, eupd_ne l1]; exact H.hf g hg
  · have h := H.nd
    simp only [List.map_cons, List.nodup_cons, List.mem_cons, not_or] at h ⊢
    refine ⟨⟨h.1.1, Ne.symm p2, h.1.2.1, h.1.2.2⟩, ⟨Ne.symm p1, h.2.1.1, h.2.1.2⟩, ⟨p3, fun z => ?_⟩, h.2.2.1, h.2.2.2⟩
    obtain ⟨f, hf, e⟩ := List.mem_map.mp z
    exact p5 f hf e
  · simp only [List.map_cons, List.mem_cons] at ha
    rcases ha with rfl | rfl | rfl | ha
    · exact H.n0 _ (by simp)
    · exact H.n0 _ (by simp)
    · exact p0
    · exact H.n0 a (by simp only [List.mem_cons]; exact .inr (.inr ha))
  · have np : a ≠ pw := fun z => ha (by rw [z]; exact H.n0 pw (by simp))
    have nl : a ≠ pl := fun z => ha (by rw [z]; exact H.n0 pl (by simp))
    have nn : a ≠ p := fun z => ha (by rw [z]; exact p0)
    rw [eupd_ne nn, eupd_ne nl, eupd_ne np]; exact H.kp a ha hk
end
theorem neC_i {x : EV} {cs : List Cel} {neg : Bool} {eh : Eh} {q : KE} (ex : froE eh x = .lst (cs.map cellE)) (k : q (.bl (neg ^^ decide (cs = []))) eh) : cEq neg x (.lst []) eh q :=
  eq_i (n := 3) (m := 1) (x' := .lst (cs.map cellE)) (y' := .lst []) (decide (cs = [])) ex rfl (okD_cells cs) rfl (by decide) (by decide) (by cases cs <;> simp) k
theorem dputN_i {md mk mv : ME} {xc : XC} {d : Dn} {es : Es} {eh : Eh} (h : mv xc es eh fun v eh1 => md xc es eh1 fun x eh2 => mk xc es eh2 fun y eh3 => ∃ p kvs ks, x = .ref p ∧ eh3 p = some (.dN kvs) ∧ keyN y = some (.tup ks) ∧ (NestedKey.tup ks).depth ≤ 8 ∧ kvs.length < sizeLine ∧
  d.nx es (eupd eh3 p (some (.dN (putN kvs (.tup ks) v))))) : sDPutN md mk mv xc d es eh := h
theorem isLst_c {eh : Eh} {a : Addr} {L : List EV} (h : eh a = some (.lst L)) : isLst eh (.ref a) := ⟨L, by simp only [lstE, h]⟩
def wsum (F : List Frm) : Nat := (F.map fun f => f.2.2.length).sum
/-- what the search tells -/
theorem search_ok {xc : XC} {dims md : Int} {rs : List Row} {s : Cel} {bx : List Cel} {B : Nat} {kn : List Cel} {k : Addr} {eh : Eh} {q : KE} (R : SysR dims rs) (hs : cellOk dims rs s = true) (L : Lim (nextC rs) s bx B) (hB : B + 10 ≤ sizeLine) (hbx : bx.length + 10 ≤ sizeLine)
    (K : Kno (nextC rs) bx kn) (hk : eh k = some (.dN (celD (fun _ => .bl true) kn)))
    (k0 : ∀ (kn' : List Cel) (eh' : Eh), Kno (nextC rs) bx kn' → (∀ x ∈ kn, x ∈ kn') → s ∈ kn' → (∀ a, eh a ≠ none → a ≠ k → eh' a = eh a) → eh' k = some (.dN (celD (fun _ => .bl true) kn')) → q .non eh')
    (k1 : ∀ (kn' : List Cel) (eh' : Eh) (a c b : Cel) (Q : List Cel) (n : Nat), Kno (nextC rs) bx kn' → (∀ x ∈ kn, x ∈ kn') → (∀ a, eh a ≠ none → a ≠ k → eh' a = eh a) → eh' k = some (.dN (celD (fun _ => .bl true) kn')) →
      Wy (nextC rs) s (a :: Q) → c ∈ nextC rs a → (a :: Q).reverse[n]? = some b → epr b c → (∀ m < n, ∀ b', (a :: Q).reverse[m]? = some b' → ¬ epr b' c) → q (.tup [.lst (((a :: Q).reverse ++ [c]).map cellE), .int (n : Nat)]) eh') :
    fn_search xc [sysE dims md rs, cellE s, .ref k] eh q := by
  unfold fn_search ms_search
  walk_at "go"
  intro pw hpw
  walk_at "go"
  intro pl hpl
  walk_at "go"
  refine ⟨_, _, rfl, ?_⟩
  walk_at "go"
  intro a0 ha0
  have l1 : pl ≠ pw := fun z => by rw [z, eupd_same] at hpl; cases hpl
  rw [eupd_ne l1] at hpl
  have l2 : a0 ≠ pl := fun z => by rw [z, eupd_same] at ha0; cases ha0
  rw [eupd_ne l2] at ha0
  have l3 : a0 ≠ pw := fun z => by rw [z, eupd_same] at ha0; cases ha0
  rw [eupd_ne l3] at ha0
  have kk : eh k ≠ none := by rw [hk]; simp
  have c1 : k ≠ pw := fun z => kk (by rw [z]; exact hpw)
  have c2 : k ≠ pl := fun z => kk (by rw [z]; exact hpl)
  have c3 : k ≠ a0 := fun z => kk (by rw [z]; exact ha0)
  have H0 : SeH eh (eupd (eupd (eupd eh pw (some (.lst []))) pl (some (.lst []))) a0 (some (.lst [cellE s]))) k pw pl a0 kn [] [s] := by
    refine ⟨by rw [eupd_ne c3, eupd_ne c2, eupd_ne c1]; exact hk, by rw [eupd_ne (Ne.symm l3), eupd_ne (Ne.symm l1), eupd_same]; rfl, by rw [eupd_ne (Ne.symm l2), eupd_same]; rfl, eupd_same, by simp, ?_, fun a ha => ?_, kk, fun a ha hk => ?_⟩
    · simp only [List.map_nil, List.nodup_cons, List.mem_cons, List.not_mem_nil, or_false, not_or]
      exact ⟨⟨Ne.symm l1, Ne.symm l3⟩, Ne.symm l2, by simp⟩
    · simp only [List.map_nil, List.mem_cons, List.not_mem_nil, or_false] at ha
      rcases ha with rfl | rfl | rfl
      · exact hpw
      · exact hpl
      · exact ha0
    · rw [eupd_ne fun z => ha (by rw [z]; exact ha0), eupd_ne fun z => ha (by rw [z]; exact hpl), eupd_ne fun z => ha (by rw [z]; exact hpw)]
  refine while_inv (fun t es eh' => ∃ (kn' : List Cel) (F : List Frm) (w : List Cel) (a0 : Addr) (z6 z7 : Option EV), es = [some (sysE dims md rs), some (cellE s), some (.ref k), some (.ref pw), some (.ref pl), some (.ref a0), z6, z7] ∧ SeH eh eh' k pw pl a0 kn' F w ∧ FrI (nextC rs) s kn' F w ∧
    (F = [] ∨ Wy (nextC rs) s (F.map (·.1))) ∧ Kno (nextC rs) bx kn' ∧ (∀ x ∈ kn, x ∈ kn') ∧ (∀ f ∈ F, f.1 ∉ kn' ∧ cellOk dims rs f.1 = true) ∧ wsum F + w.length + 14 * todo bx kn' F + F.length ≤ t) _ ⟨kn, [], [s], a0, _, _, rfl, H0, .inl rfl, .inl rfl, K, fun x hx => hx, by simp, Nat.le_refl _⟩ ?_
  rintro t es eh' ⟨kn', F, w, a0, z6, z7, rfl, H, I, hW, K', hsub, hF, ht⟩ qt hq
  have wyF : F.length ≤ B ∧ ∀ f ∈ F, f.1 ∈ bx := by
    rcases hW with rfl | hW
    · simp
    · obtain ⟨b1, b2⟩ := L.l _ hW
      exact ⟨by simpa using b1, fun f hf => b2 _ (List.mem_map.mpr ⟨f, hf, rfl⟩)⟩
  have kl : kn'.length ≤ bx.length := nodup_le K'.nd K'.bx
  have hs2 := hs
  -- the turns
  have pop : w = [] → F ≠ [] → ∀ d' : Dn, (∀ (m : Nat) (es1 : Es) (eh1 : Eh), m < t → (∃ (kn' : List Cel) (F : List Frm) (w : List Cel) (a0 : Addr) (z6 z7 : Option EV), es1 = [some (sysE dims md rs), some (cellE s), some (.ref k), some (.ref pw), some (.ref pl), some (.ref a0), z6, z7] ∧ SeH eh eh1 k pw pl a0 kn' F w ∧ FrI (nextC rs) s kn' F w ∧
      (F = [] ∨ Wy (nextC rs) s (F.map (·.1))) ∧ Kno (nextC rs) bx kn' ∧ (∀ x ∈ kn, x ∈ kn') ∧ (∀ f ∈ F, f.1 ∉ kn' ∧ cellOk dims rs f.1 = true) ∧ wsum F + w.length + 14 * todo bx kn' F + F.length ≤ m) → d'.nx es1 eh1) →
      bd_search_1 xc d' [some (sysE dims md rs), some (cellE s), some (.ref k), some (.ref pw), some (.ref pl), some (.ref a0), z6, z7] eh' := by
    intro hw0 hF0 d' hnx
    subst hw0
    obtain ⟨f, G, rfl⟩ := List.exists_cons_of_ne_nil hF0
    obtain ⟨n1, n2, n3, n4, n5, n6, n7⟩ := H.ne
    obtain ⟨i1, i2⟩ := I.pop
    have nk := (hF f (by simp)).1
    have K2 := K'.add nk i1 (wyF.2 f (by simp))
    have H2 := H.pop (kn' ++ [f.1])
    unfold bd_search_1
    walk_at "go"
    refine neC_i (cs := []) (fro_ref H.h0) ?_
    refine ⟨_, rfl, ?_⟩
    refine cT_i ?_
    walk_at "go"
    refine dputN_i ?_
    walk_at "go"
    refine ⟨isLst_c H.hw, ?_⟩
    refine anil_i ?_
    refine ⟨(G.map (·.1)).reverse.map cellE, cellE f.1, by rw [H.hw]; simp, ?_⟩
    refine ⟨k, _, _, rfl, by rw [eupd_ne n4]; exact H.hk, keyN_cell f.1, cK_depth f.1, by simp only [celD, List.length_map]; omega, ?_⟩
    have ep := putN_cell (f := fun _ => EV.bl true) nk
    show sSet 5 _ xc d' _ (eupd _ k (some (.dN (putN (celD (fun _ => .bl true) kn') (cK f.1) (.bl true)))))
    rw [ep]
    walk_at "go"
    refine ⟨isLst_c (L := _) (by rw [eupd_ne (Ne.symm n5), eupd_ne (Ne.symm n1)]; exact H.hl), ?_⟩
    refine anil_i ?_
    refine ⟨(G.map fun f => EV.ref f.2.1).reverse, .ref f.2.1, by rw [eupd_ne (Ne.symm n5), eupd_ne (Ne.symm n1), H.hl]; simp, ?_⟩
    refine hnx (t - 1) _ _ (by simp only [List.length_cons] at ht; omega) ⟨kn' ++ [f.1], G, f.2.2, f.2.1, z6, z7, rfl, H2, i2, ?_, K2, fun x hx => by simp [hsub x hx], fun g hg => ⟨fun z => ?_, (hF g (by simp [hg])).2⟩, ?_⟩
    · rcases hW with h | h
      · cases h
      · cases G with
        | nil => exact .inl rfl
        | cons g G => cases h with | cons h1 _ _ => exact .inr h1
    · rcases List.mem_append.mp z with z | z
      · exact (hF g (by simp [hg])).1 z
      · have e := List.mem_singleton.mp z
        rcases hW with h | h
        · cases h
        · have := wy_nodup h
          rw [List.map_cons, List.nodup_cons] at this
          exact this.1 (List.mem_map.mpr ⟨g, hg, e⟩)
    · rw [todo_pop]
      simp only [wsum, List.map_cons, List.sum_cons, List.length_cons, List.length_nil] at ht ⊢
      omega
  have turn : ∀ (w' : List Cel) (l : Cel), w = w' ++ [l] → ∀ d' : Dn, (∀ x y, d'.rt x y = q x y) → (∀ (m : Nat) (es1 : Es) (eh1 : Eh), m < t → (∃ (kn' : List Cel) (F : List Frm) (w : List Cel) (a0 : Addr) (z6 z7 : Option EV), es1 = [some (sysE dims md rs), some (cellE s), some (.ref k), some (.ref pw), some (.ref pl), some (.ref a0), z6, z7] ∧ SeH eh eh1 k pw pl a0 kn' F w ∧ FrI (nextC rs) s kn' F w ∧
      (F = [] ∨ Wy (nextC rs) s (F.map (·.1))) ∧ Kno (nextC rs) bx kn' ∧ (∀ x ∈ kn, x ∈ kn') ∧ (∀ f ∈ F, f.1 ∉ kn' ∧ cellOk dims rs f.1 = true) ∧ wsum F + w.length + 14 * todo bx kn' F + F.length ≤ m) → d'.nx es1 eh1) →
      bd_search_1 xc d' [some (sysE dims md rs), some (cellE s), some (.ref k), some (.ref pw), some (.ref pl), some (.ref a0), z6, z7] eh' := by
    intro w' l hwl d' hrt hnx
    subst hwl
    obtain ⟨n1, n2, n3, n4, n5, n6, n7⟩ := H.ne
    have hlok : cellOk dims rs l = true := by
      rcases I.next with ⟨_, e, _⟩ | ⟨f, G, e, hl⟩
      · rw [e]; exact hs
      · exact nextC_ok R (hF f (by rw [e]; simp)).2 hl
    have H1 := H.less w'
    unfold bd_search_1
    walk_at "go"
    refine neC_i (fro_ref H.h0) ?_
    refine ⟨_, rfl, ?_⟩
    rw [decide_eq_false (by simp)]
    refine cF_i ?_
    walk_at "go"
    refine ⟨isLst_c H.h0, ?_⟩
    refine anil_i ?_
    refine ⟨w'.map cellE, cellE l, by rw [H.h0]; simp, ?_⟩
    generalize eupd eh' a0 (some (.lst (w'.map cellE))) = eh1 at H1 ⊢
    walk_at "go"
    refine ⟨k, _, _, rfl, H1.hk, keyN_cell l, cK_depth l, ?_⟩
    refine ⟨_, rfl, ?_⟩
    rw [show NestedKey.tup [.text l.1, .tup (l.2.map .num)] = cK l from rfl, getN_some]
    by_cases hkl : l ∈ kn'
    · rw [decide_eq_true hkl]
      refine cT_i ?_
      walk_at "go"
      refine ⟨_, rfl, ?_⟩
      refine cF_i ?_
      walk_at "go"
      refine ⟨k, _, _, rfl, H1.hk, keyN_cell l, cK_depth l, ?_⟩
      refine ⟨_, rfl, ?_⟩
      rw [show NestedKey.tup [.text l.1, .tup (l.2.map .num)] = cK l from rfl, getN_some, decide_eq_true hkl]
      refine cF_i ?_
      walk_at "go"
      refine hnx (t - 1) _ _ (by simp at ht; omega) ⟨kn', F, w', a0, _, _, rfl, H1, I.skip hkl, hW, K', hsub, hF, by simp at ht; omega⟩
    · rw [decide_eq_false hkl]
      refine cF_i ?_
      walk_at "go"
      refine ix_i (xs := [.str l.1, .tup (l.2.map .int)]) (z := .str l.1) rfl (by rfl) ?_
      walk_at "go"
      refine ix_i (xs := [.str l.1, .tup (l.2.map .int)]) (z := .tup (l.2.map .int)) rfl (by rfl) ?_
      have lw : ∀ b ∈ (F.map (·.1)).reverse, b.2.length ≤ 100 := fun b hb => by
        obtain ⟨f, hf, rfl⟩ := List.mem_map.mp (List.mem_reverse.mp hb)
        have := (cellOk_len (hF f hf).2).1
        have := R.d
        omega
      refine early_fz rfl (fro_ref H1.hw) lw (fun hno => ?_) fun n b hb he hm => ?_
      · walk_at "go"
        refine ⟨_, rfl, ?_⟩
        refine cF_i ?_
        walk_at "go"
        refine ⟨k, _, _, rfl, H1.hk, keyN_cell l, cK_depth l, ?_⟩
        refine ⟨_, rfl, ?_⟩
        rw [show NestedKey.tup [.text l.1, .tup (l.2.map .num)] = cK l from rfl, getN_some, decide_eq_false hkl]
        refine cT_i ?_
        have hno2 : ∀ b ∈ F.map (·.1), ¬ epr b l := fun b hb => hno b (List.mem_reverse.mpr hb)
        have W2 : Wy (nextC rs) s (l :: F.map (·.1)) := by
          rcases I.next with ⟨e1, e2, _⟩ | ⟨f, G, e, hl⟩
          · rw [e1, e2]; exact .one
          · rcases hW with h | h
            · rw [e] at h; cases h
            · rw [e] at h hno2 ⊢
              exact .cons h hl hno2
        obtain ⟨b1, b2⟩ := L.l _ W2
        simp only [List.length_cons, List.length_map] at b1
        walk_at "go"
        refine ⟨isLst_c H1.hw, ?_⟩
        walk_at "go"
        refine ⟨_, H1.hw, by simp; omega, ?_⟩
        walk_at "go"
        refine ⟨isLst_c (by rw [eupd_ne (Ne.symm n1)]; exact H1.hl), ?_⟩
        walk_at "go"
        refine ⟨_, by rw [eupd_ne (Ne.symm n1)]; exact H1.hl, by simp; omega, ?_⟩
        walk_at "go"
        refine ix_i (xs := [.str l.1, .tup (l.2.map .int)]) (z := .str l.1) rfl (by rfl) ?_
        walk_at "go"
        refine ix_i (xs := [.str l.1, .tup (l.2.map .int)]) (z := .tup (l.2.map .int)) rfl (by rfl) ?_
        obtain ⟨r, hr, ew, fit, en⟩ := cell_fit R hlok
        refine ⟨rfl, ?_⟩
        show fn_cells_from xc [sysE dims md rs, .str l.1, .tup (l.2.map .int)] _ _
        rw [← ew]
        refine cells_ok fit fun p hp => ?_
        rw [← en]
        have e1 : (F.map (·.1)).reverse.map cellE ++ [cellE l] = ((F.map (·.1)).reverse ++ [l]).map cellE := by simp
        rw [e1] at hp ⊢
        have H2 := H1.push (l := l) (nextC rs l) hp
        have hlF : l ∉ F.map (·.1) := fun z => hno2 l z (epr_refl l)
        have tp := todo_push (F := F) (a := a0) (w := w') (b2 l (by simp)) hkl hlF
        have nl := nextC_len R hlok
        refine hnx (t - 1) _ _ (by simp at ht; omega) ⟨kn', (l, a0, w') :: F, nextC rs l, p, _, _, rfl, H2, I.push, .inr W2, K', hsub, fun f hf => ?_, ?_⟩
        · rcases List.mem_cons.mp hf with rfl | hf
          · exact ⟨hkl, hlok⟩
          · exact hF f hf
        · simp only [wsum, List.map_cons, List.sum_cons, List.length_cons, List.length_append, List.length_nil] at ht ⊢
          omega
      · walk_at "go"
        refine ⟨_, rfl, ?_⟩
        refine cT_i ?_
        walk_at "go"
        refine ⟨_, by simp only [seqE, H1.hw]; rfl, ?_⟩
        repeat walk_at "vm"
        refine ⟨by simp; omega, ?_⟩
        repeat walk_at "vm"
        refine ⟨szl (by simp), ?_⟩
        rw [hrt]
        obtain ⟨f, G, eF⟩ : ∃ f G, F = f :: G := by
          cases F with
          | nil => simp at hb
          | cons f G => exact ⟨f, G, rfl⟩
        have hlf : l ∈ nextC rs f.1 := by
          rcases I.next with ⟨e1, _, _⟩ | ⟨f', G', e, hl⟩
          · rw [e1] at eF; cases eF
          · rw [eF] at e; cases e; exact hl
        have hW2 : Wy (nextC rs) s (f.1 :: G.map (·.1)) := by
          rcases hW with h | h
          · rw [h] at eF; cases eF
          · rw [eF] at h; exact h
        have eL : (F.map (·.1)).reverse.map cellE ++ [cellE l] = ((f.1 :: G.map (·.1)).reverse ++ [l]).map cellE := by rw [eF]; simp
        have eR : (F.map (·.1)).reverse = (f.1 :: G.map (·.1)).reverse := by rw [eF]; rfl
        rw [eL]
        rw [eR] at hb hm
        exact k1 kn' _ f.1 l b (G.map (·.1)) n K' hsub H1.kp H1.hk hW2 hlf hb he hm
  -- the test
  walk_at "go"
  refine neC_i (fro_ref H.h0) ?_
  refine ⟨_, rfl, ?_⟩
  rw [Bool.true_xor]
  by_cases hw0 : w = []
  · rw [decide_eq_true hw0]
    refine cF_i ?_
    walk_at "go"
    refine neC_i (fro_ref H.hw) ?_
    refine ⟨_, rfl, ?_⟩
    rw [Bool.true_xor]
    by_cases hF0 : F = []
    · rw [decide_eq_true (by rw [hF0]; rfl)]
      refine hq _ _ (fun z => nomatch z) fun _ => ?_
      walk_at "go"
      refine k0 kn' eh' K' hsub ?_ H.kp H.hk
      rw [hF0, hw0] at I
      rcases I with h | h
      · cases h
      · exact h.2
    · rw [decide_eq_false (by simpa using hF0)]
      refine hq _ _ (fun _ d' _ hnx _ _ => ?_) (fun z => nomatch z)
      exact pop hw0 hF0 d' hnx
  · rw [decide_eq_false hw0]
    refine cT_i ?_
    refine hq _ _ (fun _ d' hrt hnx _ _ => ?_) (fun z => nomatch z)
    exact turn w.dropLast (w.getLast hw0) (List.dropLast_concat_getLast hw0).symm d' (fun x y => by rw [hrt]) hnx
/-- is a cell ready -/
theorem wy_ok {dims : Int} {rs : List Row} (R : SysR dims rs) {s : Cel} (hs : cellOk dims rs s = true) {W : List Cel} (h : Wy (nextC rs) s W) : ∀ c ∈ W, cellOk dims rs c = true := by
  induction h with
  | one => intro c hc; rw [List.mem_singleton.mp hc]; exact hs
  | cons _ h2 _ ih =>
    intro d hd
    rcases List.mem_cons.mp hd with rfl | hd
    · exact nextC_ok R (ih _ (by simp)) h2
    · exact ih d hd
/-- a told endless pair shows that the first cell is not ready -/
theorem told_not {dims : Int} {rs : List Row} (R : SysR dims rs) {s a b c : Cel} {Q : List Cel} {n : Nat} (hs : cellOk dims rs s = true) (h : Wy (nextC rs) s (a :: Q)) (hc : c ∈ nextC rs a) (hb : (a :: Q).reverse[n]? = some b) (he : epr b c) : ¬ Rdy (nextC rs) s := fun z => by
  have M := mon_next R
  have hbm : b ∈ a :: Q := List.mem_reverse.mp (List.mem_of_getElem? hb)
  have okW := wy_ok R hs h
  have pb : Pth (nextC rs) c b := by
    rcases List.mem_cons.mp hbm with rfl | hbm
    · exact .one hc
    · exact (wy_path h b hbm).snoc hc
  have sb : Rdy (nextC rs) b := by
    -- from the first cell to b
    have key : ∀ W, Wy (nextC rs) s W → ∀ b ∈ W, Rdy (nextC rs) b := fun W hW => by
      induction hW with
      | one => intro b hb; rw [List.mem_singleton.mp hb]; exact z
      | cons _ h2 _ ih =>
        intro d hd
        rcases List.mem_cons.mp hd with rfl | hd
        · exact rdy_next (ih _ (by simp)) h2
        · exact ih d hd
    exact key _ h b hbm
  exact not_rdy M (okW b hbm) pb he sb
theorem knil {nx : Cel → List Cel} {bx : List Cel} : Kno nx bx [] := ⟨List.nodup_nil, by simp, by simp, by simp⟩
theorem isnT2 {xs : List EV} {b : Bool} {eh : Eh} {q : KE} (k : q (.bl b) eh) : cIsN b (.tup xs) .non eh q := by cases b <;> exact k
theorem isnN2 {b : Bool} {eh : Eh} {q : KE} (k : q (.bl (!b)) eh) : cIsN b .non .non eh q := by cases b <;> exact k
/-- the search, with nothing known -/
theorem readyin_fz {S : Addr → Bool} {xc : XC} {dims md : Int} {rs : List Row} {s : Cel} {bx : List Cel} {B : Nat} {eh : Eh} {q : KE} (hS : S = nw eh) (R : SysR dims rs) (hs : cellOk dims rs s = true) (L : Lim (nextC rs) s bx B) (hB : B + 10 ≤ sizeLine) (hbx : bx.length + 10 ≤ sizeLine)
    (k0 : Rdy (nextC rs) s → q (.bl true) eh) (k1 : ¬ Rdy (nextC rs) s → q (.bl false) eh) : ([sysE dims md rs, cellE s] ++ []).length = 2 ∧ FZ S fn_ready_in xc ([sysE dims md rs, cellE s] ++ []) eh q := by
  refine ⟨rfl, ?_⟩
  subst hS
  unfold FZ fn_ready_in ms_ready_in
  walk_at "go"
  intro k hk
  walk_at "go"
  refine ⟨rfl, ?_⟩
  have back : ∀ eh', (∀ a, eupd eh k (some (.dN [])) a ≠ none → a ≠ k → eh' a = eupd eh k (some (.dN [])) a) → drE (nw eh) eh' = eh := fun eh' h => by
    refine Kp.dr fun a ha => ?_
    have ak : a ≠ k := fun z => ha (by rw [z]; exact hk)
    have := h a (by rw [eupd_ne ak]; exact ha) ak
    rw [this, eupd_ne ak]
  refine search_ok (bx := bx) (B := B) (kn := []) R hs L hB hbx knil eupd_same (fun kn' eh' K hsub hsk hkp _ => ?_) fun kn' eh' a c b Q n K hsub hkp _ hW hc hb he hm => ?_
  · rw [back eh' hkp]
    refine isnN2 ?_
    exact fin_data (n := 0) .refl rfl (k0 (K.rd s hsk))
  · rw [back eh' hkp]
    refine isnT2 (xs := List.map (fz (nw eh) eh' 8) [.lst (((a :: Q).reverse ++ [c]).map cellE), .int (n : Nat)]) ?_
    exact fin_data (n := 0) .refl rfl (k1 (told_not R hs hW hc hb he))

/-! ### small systems: the search stays within bounds -/
structure SmR (dims : Int) (rs : List Row) : Prop where
  R : SysR dims rs
  d : dims = 1 ∨ dims = 2
  one : dims = 1 → rs.length ≤ 6 ∧ VecM rs 5
  two : dims = 2 → rs.length ≤ 3 ∧ VecM rs 2
def bxS (dims : Int) (rs : List Row) : List Cel := if dims = 1 then bx1 (rs.map (·.w)) (200 + 5 * 6) else bx2 (rs.map (·.w)) 1312
def bdS (dims : Int) : Nat := if dims = 1 then 6 * (200 + 5 * 6 + 1) else 651 * (1312 + 1)
/-- a point within the bounds -/
def InP (dims : Int) (p : List Int) : Prop := ∀ n ∈ p, n ≤ if dims = 1 then 200 else 10
theorem SmR.lim {dims : Int} {rs : List Row} {s : Cel} (h : SmR dims rs) (hs : cellOk dims rs s = true) (hp : InP dims s.2) : Lim (nextC rs) s (bxS dims rs) (bdS dims) := by
  rcases h.d with rfl | rfl
  · obtain ⟨h1, h2⟩ := h.one rfl
    have := lim1 (P0 := 200) (X := 5) (N := 6) h.R h2 hs (fun n hn => by have := hp n hn; simpa using this) h1
    exact this
  · obtain ⟨h1, h2⟩ := h.two rfl
    have e : linK 2 10 3 = 651 := by decide
    have := lim2 (P0 := 10) (X := 2) (N := 3) (M := 1312) h.R h2 hs (fun n hn => by have := hp n hn; simpa using this) h1 (by rw [e]; decide)
    rw [e] at this
    exact this
theorem SmR.bx {dims : Int} {rs : List Row} (h : SmR dims rs) : (bxS dims rs).length + 10 ≤ sizeLine := by
  have z : 6000000 ≤ sizeLine := by decide
  unfold bxS
  rcases h.d with rfl | rfl
  · obtain ⟨h1, h2⟩ := h.one rfl
    rw [if_pos rfl, bx1_len, List.length_map]
    omega
  · obtain ⟨h1, h2⟩ := h.two rfl
    rw [if_neg (by decide), bx2_len, List.length_map]
    have h3 := Nat.mul_le_mul_right ((1312 + 1) * (1312 + 1)) h1
    have e : 3 * ((1312 + 1) * (1312 + 1)) + 10 ≤ sizeLine := by decide
    exact Nat.le_trans (Nat.add_le_add_right h3 10) e
theorem SmR.sub {dims : Int} {rs rs' : List Row} (h : SmR dims rs) (R : SysR dims rs') (hl : rs'.length = rs.length) (hs : ∀ r ∈ rs', ∃ r' ∈ rs, ∀ x ∈ r.rs, x ∈ r'.rs) : SmR dims rs' := by
  refine ⟨R, h.d, fun e => ⟨by rw [hl]; exact (h.one e).1, fun r hr x hx v hv => ?_⟩, fun e => ⟨by rw [hl]; exact (h.two e).1, fun r hr x hx v hv => ?_⟩⟩
  · obtain ⟨r', hr', hh⟩ := hs r hr
    exact (h.one e).2 r' hr' x (hh x hx) v hv
  · obtain ⟨r', hr', hh⟩ := hs r hr
    exact (h.two e).2 r' hr' x (hh x hx) v hv
section
variable {S : Addr → Bool} {xc : XC} {dims md : Int} {rs : List Row} {s : Cel} {eh : Eh} {q : KE}
open Classical in
end
/-! ### small systems drawn (rng) -/
structure SmF (dims : Int) (rows : List Row) : Prop where
  d : dims = 1 ∨ dims = 2
  fit : ∀ md, 2 ≤ md → SysFit dims md rows
  vb : ∀ r ∈ rows, ∀ x ∈ r.rs, ∀ v ∈ x.v, -5 ≤ v ∧ v ≤ 5
  two : dims = 2 → rows.length ≤ 3 ∧ ∀ r ∈ rows, ∀ x ∈ r.rs, ∀ v ∈ x.v, -2 ≤ v ∧ v ≤ 2
  wd : ∀ r ∈ rows, r.w ∈ WORDS
theorem SmF.sm {dims : Int} {rows : List Row} (h : SmF dims rows) : SmR dims (sortR rows) := by
  have p := sortR_perm rows
  have F := h.fit 2 (by decide)
  refine ⟨F.toR, h.d, fun _ => ⟨by rw [p.length_eq]; exact F.l.2, fun r hr x hx v hv => ?_⟩, fun e => ⟨by rw [p.length_eq]; exact (h.two e).1, fun r hr x hx v hv => ?_⟩⟩
  · have := h.vb r (p.mem_iff.mp hr) x hx v hv; omega
  · have := (h.two e).2 r (p.mem_iff.mp hr) x hx v hv; omega
theorem small_fz {S : Addr → Bool} {xc : XC} {a : Addr} {s : Int × Int × Int} {b : Int} {eh : Eh} {q : KE} (hS : S = nw eh) (h : eh a = some (rgO s)) (hs : RgOk b s) (hb : b + 3000 ≤ 900000000)
    (k : ∀ (dims : Int) (rows : List Row) (s' : Int × Int × Int), SmF dims rows → RgOk (b + 2100) s' → q (.tup [.int dims, .lst (rows.map rowE)]) (eupd eh a (some (rgO s')))) : ([EV.ref a] ++ []).length = 1 ∧ FZ S fn__law_small xc ([EV.ref a] ++ []) eh q := by
  refine ⟨rfl, ?_⟩
  subst hS
  have ha : eh a ≠ none := by rw [h]; simp
  have fin : ∀ (dims many most wide : Int) (rows : List Row) (s' : Int × Int × Int), Good dims many most wide rows → (dims = 1 ∧ wide ≤ 5 ∨ dims = 2 ∧ wide ≤ 2 ∧ many ≤ 3) → 1 ≤ many ∧ many ≤ 6 → most ≤ 12 → RgOk (b + 2100) s' → q (fz (nw eh) (eupd eh a (some (rgO s'))) 9 (.tup [.int dims, .lst (rows.map rowE)])) (drE (nw eh) (eupd eh a (some (rgO s')))) := fun dims many most wide rows s' G hd hm ho hs' => by
    refine fin_rg ha (n := 6) ?_ (k dims rows s' ⟨?_, fun md hmd => good_fit G (by omega) hm hmd ho, fun r hr x hx v hv => ?_, fun e => ⟨?_, fun r hr x hx v hv => ?_⟩, G.wd⟩ hs')
    · show [EV.int dims, .lst (rows.map rowE)].all (okB 5) = true
      have : okB 5 (.lst (rows.map rowE)) = true := okB_of (okD_rows rows)
      simp only [List.all_cons, List.all_nil, Bool.and_true, this]; rfl
    · omega
    · have := (G.rd r hr x hx).b v hv; omega
    · have := G.len; omega
    · have := (G.rd r hr x hx).b v hv; omega
  unfold FZ fn__law_small ms__law_small
  walk_at "go"
  refine draw_fz rfl h hs (by omega) (by decide) (by decide) fun v s1 v0 v1 hs1 => ?_
  walk_at "go"
  have hv : v = 0 ∨ v = 1 := by omega
  rcases hv with rfl | rfl
  · refine cT_i ?_
    walk_at "go"
    refine draw_fz rfl eupd_same hs1 (by omega) (by decide) (by decide) fun u s2 u0 u1 hs2 => ?_
    obtain ⟨many, most, hmm, hb1⟩ : ∃ many most : Int, atI [EV.tup [.int 4, .int 8], .tup [.int 6, .int 12]] u = some (.tup [.int many, .int most]) ∧ (1 ≤ many ∧ many ≤ 6) ∧ 0 ≤ most ∧ most ≤ 12 := by
      have : u = 0 ∨ u = 1 := by omega
      rcases this with rfl | rfl
      · exact ⟨4, 8, rfl, by decide⟩
      · exact ⟨6, 12, rfl, by decide⟩
    rw [eupd_eupd]
    refine ix_i (by rfl) hmm ?_
    refine ⟨_, rfl, ?_⟩
    walk_at "go"
    refine draw_fz rfl eupd_same hs2 (by omega) (by omega) (by omega) fun w s3 w0 w1 hs3 => ?_
    walk_at "go"
    refine draw_fz rfl eupd_same hs3 (by omega) (by decide) (by decide) fun t s4 t0 t1 hs4 => ?_
    obtain ⟨wide, hw, hw1⟩ : ∃ wide : Int, atI [EV.int 2, .int 5] t = some (.int wide) ∧ 0 ≤ wide ∧ wide ≤ 5 := by
      have : t = 0 ∨ t = 1 := by omega
      rcases this with rfl | rfl
      · exact ⟨2, rfl, by decide⟩
      · exact ⟨5, rfl, by decide⟩
    refine ix_i (by rfl) hw ?_
    walk_at "go"
    rw [eupd_eupd, eupd_eupd]
    refine made_fz ((nw_eupd ha).trans (nw_eupd ha).symm) eupd_same hs4 (by omega) (by decide) (by decide) (by omega) (by omega) (by omega) (by omega) (by omega) (by omega) fun rows s5 hg hs5 => ?_
    walk_at "go"
    rw [eupd_eupd]
    exact fin 1 (1 + w) most wide rows s5 hg (.inl ⟨rfl, by omega⟩) (by omega) (by omega) (hs5.mono (by omega))
  · refine cF_i ?_
    walk_at "go"
    refine draw_fz rfl eupd_same hs1 (by omega) (by decide) (by decide) fun w s3 w0 w1 hs3 => ?_
    walk_at "go"
    refine draw_fz rfl eupd_same hs3 (by omega) (by decide) (by decide) fun t s4 t0 t1 hs4 => ?_
    walk_at "go"
    refine div_i (by decide) ?_
    obtain ⟨most, hw, hw1⟩ : ∃ most : Int, atI [EV.int 6, .int 12] (t / 3) = some (.int most) ∧ 0 ≤ most ∧ most ≤ 12 := by
      have : t = 0 ∨ t = 1 ∨ t = 2 ∨ t = 3 := by omega
      rcases this with rfl | rfl | rfl | rfl
      · exact ⟨6, rfl, by decide⟩
      · exact ⟨6, rfl, by decide⟩
      · exact ⟨6, rfl, by decide⟩
      · exact ⟨12, rfl, by decide⟩
    refine ix_i (by rfl) hw ?_
    walk_at "go"
    rw [eupd_eupd, eupd_eupd]
    refine made_fz ((nw_eupd ha).trans (nw_eupd ha).symm) eupd_same hs4 (by omega) (by decide) (by decide) (by omega) (by omega) (by omega) (by omega) (by omega) (by omega) fun rows s5 hg hs5 => ?_
    walk_at "go"
    rw [eupd_eupd]
    exact fin 2 (1 + w) most 2 rows s5 hg (.inr ⟨rfl, by omega, by omega⟩) (by omega) (by omega) (hs5.mono (by omega))

/-! ### greatest ints (in wk7 too; for orders without it) -/
def mxI : List Int → Int
  | [] => 0
  | n :: r => mostI n r
theorem most_le : ∀ (r : List Int) (n m : Int), mostI n r ≤ m ↔ n ≤ m ∧ ∀ y ∈ r, y ≤ m
  | [], n, m => by
    show n ≤ m ↔ _
    simp
  | a :: r, n, m => by
    show mostI (if n < a then a else n) r ≤ m ↔ _
    rw [most_le r]
    constructor
    · intro ⟨h1, h2⟩
      refine ⟨by split at h1 <;> omega, fun y hy => ?_⟩
      rcases List.mem_cons.mp hy with rfl | hy
      · split at h1 <;> omega
      · exact h2 y hy
    · intro ⟨h1, h2⟩
      refine ⟨?_, fun y hy => h2 y (by simp [hy])⟩
      have := h2 a (by simp)
      split <;> omega
theorem mx_le {ns : List Int} {m : Int} (h : ns ≠ []) : mxI ns ≤ m ↔ ∀ y ∈ ns, y ≤ m := by
  cases ns with
  | nil => exact absurd rfl h
  | cons n r =>
    show mostI n r ≤ m ↔ _
    rw [most_le]
    simp
theorem kp_none {eh0 eh : Eh} (kp : Kp eh0 eh) {a : Addr} (h : eh a = none) : eh0 a = none := by
  cases e : eh0 a with
  | none => rfl
  | some o => have := kp a (by rw [e]; simp); rw [h, e] at this; cases this
/-! ### cells in sets; dicts of cells written -/
theorem sortsetN_c {m : ME} {xc : XC} {es : Es} {eh : Eh} {q : KE} (h : m xc es eh fun x eh1 => ∃ ks : List NestedKey, lstE eh1 x = some (ks.map evK) ∧ (∃ ds : List NestedKey, ds.length < 63 ∧ ∀ k ∈ ks, k ∈ ds) ∧ (∀ k ∈ ks, (∃ js, k = .tup js) ∧ k.depth ≤ 8) ∧
  (ks.map evK).all isD = true ∧ W.AllAlike ((ks.map evK).map D) ∧ W.Sortable ((ks.map evK).map D) ∧ (∀ y ∈ ks.map evK, (D y).depth ≤ 60) ∧
  ∀ js : List NestedKey, js.Nodup → (∀ j, j ∈ js ↔ j ∈ ks) → q (.lst (sortT (js.map evK))) eh1) : mSortSetN m xc es eh q := h
theorem alike_ns : ∀ u v : List Int, PySem.W.alike (D (.tup (u.map .int))) (D (.tup (v.map .int))) = true := fun u v => by
  have h : ∀ u v : List Int, PySem.W.alikeAll (DL (u.map .int)) (DL (v.map .int)) = true := fun u => by
    induction u with
    | nil => intro v; cases v <;> rfl
    | cons a u ih =>
      intro v
      cases v with
      | nil => rfl
      | cons b v => exact ih v
  exact h u v
theorem alike_cell (a b : Cel) : PySem.W.alike (D (cellE a)) (D (cellE b)) = true := by
  have := alike_ns a.2 b.2
  show (PySem.W.alike (.str a.1) (.str b.1) && (PySem.W.alike (D (.tup (a.2.map .int))) (D (.tup (b.2.map .int))) && true)) = true
  rw [this]; rfl
theorem cel_pre {eh : Eh} {cs : List Cel} (hl : cs.length < 63) :
    lstE eh (.lst (cs.map cellE)) = some ((cs.map cK).map evK) ∧ (∃ ds : List NestedKey, ds.length < 63 ∧ ∀ k ∈ cs.map cK, k ∈ ds) ∧ (∀ k ∈ cs.map cK, (∃ js, k = .tup js) ∧ k.depth ≤ 8) ∧
  ((cs.map cK).map evK).all isD = true ∧ W.AllAlike (((cs.map cK).map evK).map D) ∧ W.Sortable (((cs.map cK).map evK).map D) ∧ (∀ y ∈ (cs.map cK).map evK, (D y).depth ≤ 60) := by
  have ek : (cs.map cK).map evK = cs.map cellE := by rw [List.map_map]; exact List.map_congr_left fun c _ => evK_cell c
  refine ⟨by rw [ek]; rfl, ⟨cs.map cK, by rw [List.length_map]; exact hl, fun _ h => h⟩, fun k hk => ?_, ?_, ?_, ?_, fun y hy => ?_⟩
  · obtain ⟨c, _, rfl⟩ := List.mem_map.mp hk
    exact ⟨⟨_, rfl⟩, cK_depth c⟩
  · rw [ek]; exact List.all_eq_true.mpr fun y hy => by
      obtain ⟨c, _, rfl⟩ := List.mem_map.mp hy
      exact (DOk.of (okB_of (okD_cell c))).d
  · rw [ek, List.map_map]
    exact PySem.W.AllAlike.of fun a b => alike_cell a b
  · rw [ek, List.map_map]
    exact PySem.W.Sortable.tuples fun c => ⟨_, _, rfl⟩
  · rw [ek] at hy
    obtain ⟨c, _, rfl⟩ := List.mem_map.mp hy
    exact Nat.le_trans (DOk.of (okB_of (okD_cell c))).z (by decide)
theorem all_cel : ∀ {L : List EV}, (∀ e ∈ L, ∃ c : Cel, e = cellE c) → ∃ T : List Cel, L = T.map cellE
  | [], _ => ⟨[], rfl⟩
  | e :: L, h => by
    obtain ⟨c, rfl⟩ := h e (by simp)
    obtain ⟨T, rfl⟩ := all_cel (L := L) fun x hx => h x (by simp [hx])
    exact ⟨c :: T, rfl⟩
theorem cel_T {cs : List Cel} {js : List NestedKey} (hn : js.Nodup) (hm : ∀ j, j ∈ js ↔ j ∈ cs.map cK) : ∃ T : List Cel, sortT (js.map evK) = T.map cellE ∧ T.Nodup ∧ ∀ c, c ∈ T ↔ c ∈ cs := by
  have pm : (sortT (js.map evK)).Perm (js.map evK) := List.mergeSort_perm _ _
  obtain ⟨T, hT⟩ := all_cel (L := sortT (js.map evK)) fun e he => by
    obtain ⟨j, hj, rfl⟩ := List.mem_map.mp (pm.mem_iff.mp he)
    obtain ⟨c, _, rfl⟩ := List.mem_map.mp ((hm j).mp hj)
    exact ⟨c, evK_cell c⟩
  rw [hT] at pm
  have nd : (js.map evK).Nodup := by
    have : ∀ {l : List NestedKey}, l.Nodup → (∀ j ∈ l, ∃ c : Cel, j = cK c) → (l.map evK).Nodup := fun {l} => by
      induction l with
      | nil => intro _ _; exact List.nodup_nil
      | cons j l ih =>
        intro h1 h2
        rw [List.nodup_cons] at h1
        rw [List.map_cons, List.nodup_cons]
        refine ⟨fun hm => ?_, ih h1.2 fun x hx => h2 x (by simp [hx])⟩
        obtain ⟨k, hk, e⟩ := List.mem_map.mp hm
        obtain ⟨c, rfl⟩ := h2 j (by simp)
        obtain ⟨d, rfl⟩ := h2 k (by simp [hk])
        rw [evK_cell, evK_cell] at e
        rw [cellE_inj e] at hk
        exact h1.1 hk
    exact this hn fun j hj => by obtain ⟨c, _, rfl⟩ := List.mem_map.mp ((hm j).mp hj); exact ⟨c, rfl⟩
  have ndT : T.Nodup := by
    have := pm.nodup_iff.mpr nd
    rw [List.nodup_iff_pairwise_ne, List.pairwise_map] at this
    exact List.nodup_iff_pairwise_ne.mpr (this.imp fun h e => h (by rw [e]))
  refine ⟨T, hT, ndT, fun c => ?_⟩
  have h1 : c ∈ T ↔ cellE c ∈ T.map cellE := ⟨fun h => List.mem_map.mpr ⟨c, h, rfl⟩, fun h => by obtain ⟨d, hd, e⟩ := List.mem_map.mp h; rw [← cellE_inj e]; exact hd⟩
  rw [h1, pm.mem_iff]
  constructor
  · intro h
    obtain ⟨j, hj, e⟩ := List.mem_map.mp h
    obtain ⟨d, hd, rfl⟩ := List.mem_map.mp ((hm j).mp hj)
    rw [evK_cell] at e
    rw [← cellE_inj e]; exact hd
  · intro h
    exact List.mem_map.mpr ⟨cK c, (hm _).mpr (List.mem_map.mpr ⟨c, h, rfl⟩), evK_cell c⟩
/-- a function changed at one cell -/
def updF {β : Type} (f : Cel → β) (c : Cel) (v : β) : Cel → β := fun x => if x = c then v else f x
theorem updF_same {β : Type} {f : Cel → β} {c : Cel} {v : β} : updF f c v c = v := if_pos rfl
theorem updF_ne {β : Type} {f : Cel → β} {c x : Cel} {v : β} (h : x ≠ c) : updF f c v x = f x := if_neg h
theorem celD_congr {f g : Cel → EV} {kn : List Cel} (h : ∀ c ∈ kn, f c = g c) : celD f kn = celD g kn := List.map_congr_left fun c hc => by rw [h c hc]
theorem putN_new {f : Cel → EV} {c : Cel} {v : EV} {kn : List Cel} (h : c ∉ kn) : putN (celD f kn) (cK c) v = celD (updF f c v) (kn ++ [c]) := by
  rw [celD_congr (g := updF f c v) fun x hx => (updF_ne fun e => h (by rw [← e]; exact hx)).symm]
  have := putN_cell (f := updF f c v) h
  rw [updF_same] at this
  exact this
theorem putN_old {f : Cel → EV} {c : Cel} {v : EV} {kn : List Cel} (h : c ∈ kn) : putN (celD f kn) (cK c) v = celD (updF f c v) kn := by
  unfold putN
  rw [getN_some, decide_eq_true h]
  simp only [if_true]
  unfold celD
  rw [List.map_map]
  refine List.map_congr_left fun x _ => ?_
  show (if cK x = cK c then (cK x, v) else (cK x, f x)) = (cK x, updF f c v x)
  by_cases e : x = c
  · subst e; rw [if_pos rfl, updF_same]
  · rw [if_neg fun z => e (cK_inj z), updF_ne e]

/-! ### what a law's own search of all cells knows -/
theorem nodup_leC {α : Type} [DecidableEq α] : ∀ {L M : List α}, L.Nodup → (∀ x ∈ L, x ∈ M) → L.length ≤ M.length
  | [], _, _, _ => Nat.zero_le _
  | x :: L, M, hn, h => by
    rw [List.nodup_cons] at hn
    have hx := h x (by simp)
    have ih := nodup_leC (L := L) (M := M.erase x) hn.2 fun y hy => (List.mem_erase_of_ne (fun (e : y = x) => hn.1 (by rw [← e]; exact hy))).mpr (h y (by simp [hy]))
    rw [List.length_erase_of_mem hx] at ih
    have := List.length_pos_of_mem hx
    rw [List.length_cons]; omega
section
variable {nx : Cel → List Cel} {b : Cel}
/-- the cells met so far, those gone through, those in line -/
structure Bf (nx : Cel → List Cel) (b : Cel) (par : List Cel) (pr : Cel → Option Cel) (dn qu : List Cel) (I : Cel → List Cel) : Prop where
  nd : par.Nodup
  eq : par = dn ++ qu
  hb : b ∈ par
  pc : ∀ (i : Nat) (c : Cel), par[i]? = some c → (c = b ∧ pr c = none) ∨ ∃ (j : Nat) (p : Cel), j < i ∧ par[j]? = some p ∧ pr c = some p ∧ c ∈ nx p
  li : ∀ c ∈ dn, (I c).Nodup ∧ (∀ x, x ∈ I c ↔ x ∈ nx c) ∧ ∀ x ∈ I c, x ∈ par
variable {par dn qu : List Cel} {pr : Cel → Option Cel} {I : Cel → List Cel}
theorem Bf.start (nx : Cel → List Cel) (b : Cel) (I : Cel → List Cel) : Bf nx b [b] (fun _ => none) [] [b] I :=
  ⟨by simp, rfl, by simp, fun i c h => .inl ⟨by cases i with
    | zero => exact (Option.some.inj h).symm
    | succ i => simp at h, rfl⟩, fun c h => by cases h⟩
theorem Bf.reach (B : Bf nx b par pr dn qu I) : ∀ (i : Nat) (c : Cel), par[i]? = some c → c = b ∨ Pth nx c b := fun i => by
  induction i using Nat.strongRecOn with
  | _ i ih =>
    intro c hc
    rcases B.pc i c hc with ⟨e, _⟩ | ⟨j, p, hj, hp, _, hn⟩
    · exact .inl e
    · rcases ih j hj p hp with rfl | h
      · exact .inr (.one hn)
      · exact .inr (h.snoc hn)
theorem Bf.reach' (B : Bf nx b par pr dn qu I) {c : Cel} (h : c ∈ par) : c = b ∨ Pth nx c b := by
  obtain ⟨i, hi⟩ := List.getElem?_of_mem h
  exact B.reach i c hi
/-- a cell above that is not greater -/
theorem Bf.stop (B : Bf nx b par pr dn qu I) {ok : Cel → Prop} (M : Mon nx ok) (hb : ok b) {a c o : Cel} (ha : a ∈ par) (hac : a = c ∨ Pth nx c a) (ho : o ∈ nx c) (e : epr a o) : ¬ Rdy nx b := fun h => by
  have p : Pth nx o a := by
    rcases hac with rfl | p
    · exact .one ho
    · exact p.snoc ho
  rcases B.reach' ha with rfl | q
  · exact not_rdy M hb p e h
  · exact not_rdy M (q.ok M hb) p e (rdy_path h q)
theorem Bf.add (B : Bf nx b par pr dn qu I) {c x : Cel} (hc : c ∈ par) (hx : x ∉ par) (hn : x ∈ nx c) : Bf nx b (par ++ [x]) (updF pr x (some c)) dn (qu ++ [x]) I := by
  refine ⟨?_, by rw [B.eq, List.append_assoc], by simp [B.hb], fun i y hy => ?_, fun y hy => ?_⟩
  · rw [List.nodup_append]
    exact ⟨B.nd, by simp, fun a ha d hd => by rw [List.mem_singleton.mp hd]; exact fun e => hx (e ▸ ha)⟩
  · by_cases hi : i < par.length
    · rw [List.getElem?_append_left hi] at hy
      have yx : y ≠ x := fun e => hx (e ▸ List.mem_of_getElem? hy)
      rw [updF_ne yx]
      rcases B.pc i y hy with h | ⟨j, p, hj, hp, h2, h3⟩
      · exact .inl h
      · exact .inr ⟨j, p, hj, by rw [List.getElem?_append_left (by omega)]; exact hp, h2, h3⟩
    · rw [List.getElem?_append_right (by omega)] at hy
      have : i - par.length = 0 := by
        have := (List.getElem?_eq_some_iff.mp hy).1
        simp at this
        omega
      rw [this] at hy
      obtain rfl : x = y := Option.some.inj hy
      obtain ⟨j, hj⟩ := List.getElem?_of_mem hc
      have jl := (List.getElem?_eq_some_iff.mp hj).1
      exact .inr ⟨j, c, by omega, by rw [List.getElem?_append_left jl]; exact hj, updF_same, hn⟩
  · obtain ⟨h1, h2, h3⟩ := B.li y hy
    exact ⟨h1, h2, fun z hz => by simp [h3 z hz]⟩
theorem Bf.take {c : Cel} (B : Bf nx b par pr dn (c :: qu) I) {L : List Cel} (h1 : L.Nodup) (h2 : ∀ x, x ∈ L ↔ x ∈ nx c) (h3 : ∀ x ∈ L, x ∈ par) : Bf nx b par pr (dn ++ [c]) qu (updF I c L) := by
  refine ⟨B.nd, by rw [B.eq, List.append_assoc]; rfl, B.hb, B.pc, fun y hy => ?_⟩
  by_cases e : y = c
  · subst e; rw [updF_same]; exact ⟨h1, h2, h3⟩
  · rw [updF_ne e]
    rcases List.mem_append.mp hy with hy | hy
    · exact B.li y hy
    · exact absurd (List.mem_singleton.mp hy) e
/-- who uses a cell -/
structure Us (R : Cel → Cel → Prop) (uk : List Cel) (ul : Cel → List Cel) : Prop where
  nd : uk.Nodup
  k : ∀ x, x ∈ uk ↔ ∃ c, R c x
  m : ∀ x ∈ uk, (ul x).Nodup ∧ ∀ c, c ∈ ul x ↔ R c x
theorem Us.start {ul : Cel → List Cel} : Us (fun _ _ => False) [] ul := ⟨by simp, fun x => by simp, by simp⟩
theorem Us.congr {R R' : Cel → Cel → Prop} {uk : List Cel} {ul : Cel → List Cel} (U : Us R uk ul) (h : ∀ c x, R' c x ↔ R c x) : Us R' uk ul := by
  have : R' = R := funext fun c => funext fun x => propext (h c x)
  rw [this]; exact U
theorem Us.old {R : Cel → Cel → Prop} {uk : List Cel} {ul : Cel → List Cel} (U : Us R uk ul) {c x : Cel} (hx : x ∈ uk) (hr : ¬ R c x) : Us (fun d y => R d y ∨ (d = c ∧ y = x)) uk (updF ul x (ul x ++ [c])) := by
  refine ⟨U.nd, fun y => ?_, fun y hy => ?_⟩
  · rw [U.k y]
    constructor
    · rintro ⟨d, h⟩; exact ⟨d, .inl h⟩
    · rintro ⟨d, h | ⟨_, rfl⟩⟩
      · exact ⟨d, h⟩
      · exact (U.k y).mp hx
  · obtain ⟨h1, h2⟩ := U.m y hy
    by_cases e : y = x
    · subst e
      rw [updF_same]
      refine ⟨?_, fun d => ?_⟩
      · rw [List.nodup_append]
        exact ⟨h1, by simp, fun a ha d hd => by rw [List.mem_singleton.mp hd]; exact fun e => hr ((h2 c).mp (e ▸ ha))⟩
      · rw [List.mem_append, h2 d, List.mem_singleton]; simp
    · rw [updF_ne e]
      exact ⟨h1, fun d => by rw [h2 d]; exact ⟨.inl, fun h => h.elim id fun z => absurd z.2 e⟩⟩
theorem Us.new {R : Cel → Cel → Prop} {uk : List Cel} {ul : Cel → List Cel} (U : Us R uk ul) {c x : Cel} (hx : x ∉ uk) : Us (fun d y => R d y ∨ (d = c ∧ y = x)) (uk ++ [x]) (updF ul x [c]) := by
  have no : ∀ d, ¬ R d x := fun d h => hx ((U.k x).mpr ⟨d, h⟩)
  refine ⟨?_, fun y => ?_, fun y hy => ?_⟩
  · rw [List.nodup_append]
    exact ⟨U.nd, by simp, fun a ha d hd => by rw [List.mem_singleton.mp hd]; exact fun e => hx (e ▸ ha)⟩
  · rw [List.mem_append, U.k y, List.mem_singleton]
    constructor
    · rintro (⟨d, h⟩ | rfl)
      · exact ⟨d, .inl h⟩
      · exact ⟨c, .inr ⟨rfl, rfl⟩⟩
    · rintro ⟨d, h | ⟨_, h⟩⟩
      · exact .inl ⟨d, h⟩
      · exact .inr h
  · by_cases e : y = x
    · subst e
      rw [updF_same]
      refine ⟨by simp, fun d => ?_⟩
      rw [List.mem_singleton]
      exact ⟨fun h => .inr ⟨h, rfl⟩, fun h => h.elim (fun z => absurd z (no d)) fun z => z.1⟩
    · rw [updF_ne e]
      have hy : y ∈ uk := by simpa [e] using hy
      obtain ⟨h1, h2⟩ := U.m y hy
      exact ⟨h1, fun d => by rw [h2 d]; exact ⟨.inl, fun h => h.elim id fun z => absurd z.2 e⟩⟩
/-- cells peeled from the ends -/
structure Kh (nx : Cel → List Cel) (K : List Cel) (I : Cel → List Cel) (W : Cel → Cel → Bool) (lk : List Cel) (lf : Cel → Int) : Prop where
  nd : lk.Nodup
  sb : ∀ c ∈ lk, c ∈ K
  ct : ∀ c ∈ K, lf c = (((I c).filter fun x => !W c x).length : Nat)
  iff : ∀ c ∈ K, (c ∈ lk ↔ ∀ x ∈ I c, W c x = true)
  cs : ∀ c ∈ K, ∀ x ∈ I c, W c x = true → x ∈ lk
  rd : ∀ c ∈ lk, Rdy nx c
variable {K lk : List Cel} {W : Cel → Cel → Bool} {lf : Cel → Int}
def putW (W : Cel → Cel → Bool) (u h : Cel) : Cel → Cel → Bool := fun c x => W c x || (decide (c = u) && decide (x = h))
theorem filter_one {α : Type} [DecidableEq α] {p : α → Bool} {h : α} : ∀ {l : List α}, l.Nodup → h ∈ l → p h = true → (l.filter p).length = (l.filter fun x => p x && !decide (x = h)).length + 1
  | x :: l, hn, hm, hp => by
    rw [List.nodup_cons] at hn
    rcases List.mem_cons.mp hm with rfl | hm
    · rw [List.filter_cons_of_pos hp, List.filter_cons_of_neg (by simp)]
      have : l.filter p = l.filter fun x => p x && !decide (x = h) := List.filter_congr fun y hy => by
        have : y ≠ h := fun e => hn.1 (e ▸ hy)
        simp [this]
      rw [List.length_cons, this]
    · have xh : x ≠ h := fun e => hn.1 (e ▸ hm)
      have ih := filter_one hn.2 hm hp
      by_cases hx : p x = true
      · rw [List.filter_cons_of_pos hx, List.filter_cons_of_pos (by simp [hx, xh]), List.length_cons, List.length_cons, ih]
      · rw [List.filter_cons_of_neg hx, List.filter_cons_of_neg (by simp [hx]), ih]
theorem Kh.step (H : Kh nx K I W lk lf) (hI : ∀ c ∈ K, (I c).Nodup ∧ ∀ x, x ∈ I c ↔ x ∈ nx c) {u h : Cel} (hu : u ∈ K) (hh : h ∈ I u) (hw : W u h = false) (hl : h ∈ lk) :
    (lf u - 1 ≠ 0 → Kh nx K I (putW W u h) lk (updF lf u (lf u - 1))) ∧ (lf u - 1 = 0 → u ∉ lk ∧ (∀ x ∈ I u, x ∈ lk) ∧ Kh nx K I (putW W u h) (lk ++ [u]) (updF lf u (lf u - 1))) := by
  have cntu := H.ct u hu
  have one := filter_one (p := fun x => !W u x) (h := h) (hI u hu).1 hh (by simp [hw])
  have fu : ((I u).filter fun x => !putW W u h u x) = (I u).filter fun x => (!W u x) && !decide (x = h) := List.filter_congr fun x _ => by
    unfold putW
    rw [decide_eq_true rfl, Bool.true_and, Bool.not_or]
  have ct' : ∀ c ∈ K, updF lf u (lf u - 1) c = (((I c).filter fun x => !putW W u h c x).length : Nat) := fun c hc => by
    by_cases e : c = u
    · subst e
      rw [updF_same, fu]
      omega
    · rw [updF_ne e, H.ct c hc]
      congr 2
      refine List.filter_congr fun x _ => ?_
      unfold putW
      rw [decide_eq_false e, Bool.false_and, Bool.or_false]
  have ul : u ∉ lk := fun z => by
    have := (H.iff u hu).mp z h hh
    rw [hw] at this; cases this
  have wne : ∀ c, c ≠ u → ∀ x, putW W u h c x = W c x := fun c e x => by unfold putW; rw [decide_eq_false e, Bool.false_and, Bool.or_false]
  have cs' : ∀ c ∈ K, ∀ x ∈ I c, putW W u h c x = true → x ∈ lk := fun c hc x hx z => by
    unfold putW at z
    rcases Bool.or_eq_true _ _ |>.mp z with z | z
    · exact H.cs c hc x hx z
    · have := (Bool.and_eq_true _ _ |>.mp z).2
      rw [of_decide_eq_true this]; exact hl
  have full : lf u - 1 = 0 ↔ ∀ x ∈ I u, putW W u h u x = true := by
    have := ct' u hu
    rw [updF_same] at this
    rw [this]
    constructor
    · intro z x hx
      have z : ((I u).filter fun x => !putW W u h u x) = [] := List.eq_nil_of_length_eq_zero (by omega)
      have := List.filter_eq_nil_iff.mp z x hx
      simpa using this
    · intro z
      rw [List.filter_eq_nil_iff.mpr fun x hx => by rw [z x hx]; decide]; rfl
  constructor
  · intro hz
    refine ⟨H.nd, H.sb, ct', fun c hc => ?_, cs', H.rd⟩
    by_cases e : c = u
    · subst e
      exact ⟨fun z => absurd z ul, fun z => absurd (full.mpr z) hz⟩
    · rw [H.iff c hc]; simp only [wne c e]
  · intro hz
    have all := full.mp hz
    have inl : ∀ x ∈ I u, x ∈ lk := fun x hx => cs' u hu x hx (all x hx)
    refine ⟨ul, inl, ?_, fun c hc => ?_, ct', fun c hc => ?_, fun c hc x hx z => by simp [cs' c hc x hx z], fun c hc => ?_⟩
    · rw [List.nodup_append]
      exact ⟨H.nd, by simp, fun a ha d hd => by rw [List.mem_singleton.mp hd]; exact fun e => ul (e ▸ ha)⟩
    · rcases List.mem_append.mp hc with h | h
      · exact H.sb c h
      · rw [List.mem_singleton.mp h]; exact hu
    · by_cases e : c = u
      · subst e
        exact ⟨fun _ => all, fun _ => by simp⟩
      · rw [List.mem_append, List.mem_singleton, H.iff c hc]
        simp only [wne c e, e, or_false]
    · rcases List.mem_append.mp hc with h | h
      · exact H.rd c h
      · rw [List.mem_singleton.mp h]
        exact Acc.intro u fun x hx => H.rd x (inl x (((hI u hu).2 x).mpr hx))
/-- at the end -/
theorem Kh.fin (H : Kh nx K I W lk lf) (hI : ∀ c ∈ K, (I c).Nodup ∧ (∀ x, x ∈ I c ↔ x ∈ nx c) ∧ ∀ x ∈ I c, x ∈ K) (hK : K.Nodup) (hr : ∀ c ∈ K, c = b ∨ Pth nx c b) (hb : b ∈ K) (he : ∀ x ∈ lk, ∀ c ∈ K, x ∈ I c → W c x = true) : (lk.length = K.length ↔ Rdy nx b) ∧ (Rdy nx b → ∀ c ∈ K, c ∈ lk) := by
  have all : Rdy nx b → ∀ c ∈ K, c ∈ lk := fun h c hc => by
    have rc : Rdy nx c := by
      rcases hr c hc with rfl | p
      · exact h
      · exact rdy_path h p
    induction rc with
    | intro c _ ih =>
      obtain ⟨_, h2, h3⟩ := hI c hc
      exact (H.iff c hc).mpr fun x hx => he x (ih x ((h2 x).mp hx) (h3 x hx)) c hc hx
  refine ⟨⟨fun z => ?_, fun h => ?_⟩, all⟩
  · have : b ∈ lk := by
      apply Classical.byContradiction
      intro nb
      have := nodup_leC (L := b :: lk) (M := K) (List.nodup_cons.mpr ⟨nb, H.nd⟩) fun x hx => by
        rcases List.mem_cons.mp hx with rfl | hx
        · exact hb
        · exact H.sb x hx
      simp at this
      omega
    exact H.rd b this
  · have h1 := nodup_leC H.nd H.sb
    have h2 := nodup_leC hK (all h)
    omega
end

/-! ### the law's own search, walked: cells above -/
theorem lbelow_fz {S : Addr → Bool} {xc : XC} {us vs : List Int} {eh : Eh} {q : KE} (hS : S = nw eh) (hl : us.length ≤ 100) (k : q (.bl (belowP us vs)) eh) : ([EV.tup (us.map .int), .tup (vs.map .int)] ++ []).length = 2 ∧ FZ S fn__law_is_below xc ([EV.tup (us.map .int), .tup (vs.map .int)] ++ []) eh q := by
  refine ⟨rfl, ?_⟩
  subst hS
  unfold FZ fn__law_is_below ms__law_is_below
  walk_at "go"
  rw [zipI_c]
  refine comp_filter (c := fun y : Int × Int => EV.tup [.int y.1, .int y.2]) (f := fun _ => .int 1) (p := fun y => decide (y.2 < y.1)) trivial (by simp; omega) (fun u hu => asgx_i rfl ⟨fun qt hq => ?_, fun _ q' hq' => ?_⟩) ?_
  · walk_at "go"
    exact hq
  · walk_at "go"
    exact hq'
  walk_at "go"
  rw [List.nil_append]
  have e : decide (((us.zip vs).filter fun y => decide (y.2 < y.1)) = []) = belowP us vs := by
    unfold belowP
    rw [Bool.eq_iff_iff, decide_eq_true_eq, List.filter_eq_nil_iff, List.all_eq_true]
    exact ⟨fun h z hz => by have := h z hz; simp at this ⊢; omega, fun h z hz => by have := h z hz; simp at this ⊢; omega⟩
  refine eq_i (n := 1) (m := 1) (x' := .lst (((us.zip vs).filter fun y => decide (y.2 < y.1)).map fun _ => .int 1)) (y' := .lst []) (decide (((us.zip vs).filter fun y => decide (y.2 < y.1)) = [])) rfl rfl (okD_map fun _ _ => rfl) rfl (by decide) (by decide) (by cases ((us.zip vs).filter fun y => decide (y.2 < y.1)) <;> simp) ?_
  rw [e, Bool.false_xor]
  exact fin_data (n := 0) .refl rfl k
/-- the parent of a cell, as a value -/
def prE (pr : Cel → Option Cel) (c : Cel) : EV := match pr c with | none => .non | some p => cellE p
def opE : Option Cel → EV
  | none => .non
  | some c => cellE c
theorem prE_op (pr : Cel → Option Cel) (c : Cel) : prE pr c = opE (pr c) := by unfold prE opE; cases pr c <;> rfl
section
variable {dims : Int} {rs : List Row} {b : Cel} {par dn qu : List Cel} {pr : Cel → Option Cel} {I : Cel → List Cel}
theorem isnO {o : Option Cel} {neg : Bool} {eh : Eh} {q : KE} (k : q (.bl (neg ^^ o.isNone)) eh) : cIsN neg (opE o) .non eh q := by
  cases o with
  | none => exact isnN2 (by simpa using k)
  | some c => exact isnT2 (by simpa using k)
/-- the cells above, one after another -/
theorem above_ok {xc : XC} {d : Dn} {R0 B0 z3 z4 z5 z6 z7 z8 z11 : Option EV} {pp : Addr} {h o : Cel} {eh : Eh} (R : SysR dims rs) (B : Bf (nextC rs) b par pr dn qu I) (hb : cellOk dims rs b = true) (hh : h ∈ par) (ho : o ∈ nextC rs h) (hp : eh pp = some (.dN (celD (prE pr) par)))
    (hlen : ∀ c ∈ par, c.2.length ≤ 100)
    (k0 : ¬ Rdy (nextC rs) b → d.rt .non eh) (k1 : ∀ z12, d.nx [R0, B0, some (.ref pp), z3, z4, z5, z6, z7, z8, some (cellE h), some (cellE o), z11, z12] eh) :
    sWhile (tVal (mOp (cIsN true) (mVar 12) (mC .non))) bd__law_lengths_1 xc d [R0, B0, some (.ref pp), z3, z4, z5, z6, z7, z8, some (cellE h), some (cellE o), z11, some (cellE h)] eh := by
  obtain ⟨i0, hi0⟩ := List.getElem?_of_mem hh
  refine while_inv (fun t es eh' => ∃ a : Option Cel, es = [R0, B0, some (.ref pp), z3, z4, z5, z6, z7, z8, some (cellE h), some (cellE o), z11, some (opE a)] ∧ eh' = eh ∧ ∀ c, a = some c → (∃ i, i < t ∧ par[i]? = some c) ∧ (c = h ∨ Pth (nextC rs) h c)) (i0 + 1) ⟨some h, rfl, rfl, fun c e => by cases e; exact ⟨⟨i0, by omega, hi0⟩, .inl rfl⟩⟩ ?_
  rintro t es eh' ⟨a, rfl, rfl, ha⟩ qt hq
  walk_at "go"
  refine isnO ?_
  refine ⟨_, rfl, ?_⟩
  cases a with
  | none =>
    refine hq _ _ (fun z => nomatch z) fun _ => ?_
    exact k1 _
  | some c =>
    refine hq _ _ (fun _ d' hrt hnx _ _ => ?_) fun z => nomatch z
    obtain ⟨⟨i, hi, hc⟩, hch⟩ := ha c rfl
    have cm : c ∈ par := List.mem_of_getElem? hc
    have step : ∀ z12 : EV, z12 = cellE c → sSet 12 (mOp oIxN (mVar 2) (mVar 12)) xc d' [R0, B0, some (.ref pp), z3, z4, z5, z6, z7, z8, some (cellE h), some (cellE o), z11, some z12] eh' := fun z12 ez => by
      subst ez
      walk_at "go"
      refine ⟨pp, _, _, prE pr c, rfl, hp, keyN_cell c, cK_depth c, ?_, ?_⟩
      · exact (getN_cell (f := prE pr) (c := c) (kn := par)).trans (if_pos cm)
      rw [prE_op]
      refine hnx i _ _ (by omega) ⟨pr c, rfl, rfl, fun p hp' => ?_⟩
      rcases B.pc i c hc with ⟨_, e⟩ | ⟨j, p', hj, hpj, e, hn⟩
      · rw [e] at hp'; cases hp'
      · rw [e] at hp'; cases hp'
        refine ⟨⟨j, hj, hpj⟩, .inr ?_⟩
        rcases hch with rfl | q
        · exact .one hn
        · exact .step hn q
    unfold bd__law_lengths_1
    walk_at "go"
    refine ix_i (xs := [.str c.1, .tup (c.2.map .int)]) (z := .str c.1) rfl (by rfl) ?_
    walk_at "go"
    refine ix_i (xs := [.str o.1, .tup (o.2.map .int)]) (z := .str o.1) rfl (by rfl) ?_
    walk_at "go"
    refine cD_i (fun hw => ?_) (fun hw => ?_)
    · walk_at "go"
      refine ix_i (xs := [.str c.1, .tup (c.2.map .int)]) (z := .tup (c.2.map .int)) rfl (by rfl) ?_
      walk_at "go"
      refine ix_i (xs := [.str o.1, .tup (o.2.map .int)]) (z := .tup (o.2.map .int)) rfl (by rfl) ?_
      walk_at "go"
      refine lbelow_fz rfl (hlen c cm) ?_
      walk_at "go"
      refine cB_i (fun he => ?_) (fun he => ?_)
      · walk_at "go"
        rw [hrt]
        exact k0 (B.stop (mon_next R) hb cm hch ho ⟨hw, he⟩)
      · exact step _ rfl
    · exact step _ rfl
end

/-! ### the law's own search, walked: who uses a cell -/
structure LH (eh0 eh : Eh) (pp pl pi pu : Addr) (par : List Cel) (pr : Cel → Option Cel) (qu ik : List Cel) (I : Cel → List Cel) (uk : List Cel) (ul : Cel → List Cel) (ua : Cel → Addr) : Prop where
  hp : eh pp = some (.dN (celD (prE pr) par))
  hl : eh pl = some (.lst (qu.map cellE))
  hi : eh pi = some (.dN (celD (fun c => .lst ((I c).map cellE)) ik))
  hu : eh pu = some (.dN (celD (fun x => .ref (ua x)) uk))
  us : ∀ x ∈ uk, eh (ua x) = some (.lst ((ul x).map cellE))
  nip : pi ≠ pp
  nup : pu ≠ pp
  nui : pu ≠ pi
  nl : ∀ x ∈ uk, ua x ≠ pl
  inj : ∀ x ∈ uk, ∀ y ∈ uk, ua x = ua y → x = y
  zp : eh0 pp = none
  zl : eh0 pl = none
  zi : eh0 pi = none
  zu : eh0 pu = none
  za : ∀ x ∈ uk, eh0 (ua x) = none
  kp : Kp eh0 eh
section
variable {eh0 eh : Eh} {pp pl pi pu : Addr} {par : List Cel} {pr : Cel → Option Cel} {qu ik : List Cel} {I : Cel → List Cel} {uk : List Cel} {ul : Cel → List Cel} {ua : Cel → Addr}
theorem LH.lp (H : LH eh0 eh pp pl pi pu par pr qu ik I uk ul ua) : pl ≠ pp ∧ pl ≠ pi ∧ pl ≠ pu :=
  ⟨fun z => (by have := H.hl; rw [z, H.hp] at this; cases this), fun z => (by have := H.hl; rw [z, H.hi] at this; cases this), fun z => (by have := H.hl; rw [z, H.hu] at this; cases this)⟩
theorem LH.au (H : LH eh0 eh pp pl pi pu par pr qu ik I uk ul ua) {x : Cel} (hx : x ∈ uk) : ua x ≠ pp ∧ ua x ≠ pi ∧ ua x ≠ pu :=
  ⟨fun z => (by have := H.us x hx; rw [z, H.hp] at this; cases this), fun z => (by have := H.us x hx; rw [z, H.hi] at this; cases this), fun z => (by have := H.us x hx; rw [z, H.hu] at this; cases this)⟩
/-- something new beside it -/
theorem LH.gar (H : LH eh0 eh pp pl pi pu par pr qu ik I uk ul ua) {l : Addr} {o : Option EO} (h : eh l = none) : LH eh0 (eupd eh l o) pp pl pi pu par pr qu ik I uk ul ua := by
  have n : ∀ {a : Addr} {v : EO}, eh a = some v → a ≠ l := fun e z => by rw [z, h] at e; cases e
  exact ⟨by rw [eupd_ne (n H.hp)]; exact H.hp, by rw [eupd_ne (n H.hl)]; exact H.hl, by rw [eupd_ne (n H.hi)]; exact H.hi, by rw [eupd_ne (n H.hu)]; exact H.hu, fun x hx => by rw [eupd_ne (n (H.us x hx))]; exact H.us x hx,
    H.nip, H.nup, H.nui, H.nl, H.inj, H.zp, H.zl, H.zi, H.zu, H.za, H.kp.set (kp_none H.kp h)⟩
theorem LH.use_old (H : LH eh0 eh pp pl pi pu par pr qu ik I uk ul ua) {x h : Cel} (hx : x ∈ uk) : LH eh0 (eupd eh (ua x) (some (.lst ((ul x ++ [h]).map cellE)))) pp pl pi pu par pr qu ik I uk (updF ul x (ul x ++ [h])) ua := by
  obtain ⟨a1, a2, a3⟩ := H.au hx
  refine ⟨by rw [eupd_ne a1.symm]; exact H.hp, by rw [eupd_ne (H.nl x hx).symm]; exact H.hl, by rw [eupd_ne a2.symm]; exact H.hi, by rw [eupd_ne a3.symm]; exact H.hu, fun y hy => ?_,
    H.nip, H.nup, H.nui, H.nl, H.inj, H.zp, H.zl, H.zi, H.zu, H.za, H.kp.set (H.za x hx)⟩
  by_cases e : y = x
  · subst e; rw [eupd_same, updF_same]
  · rw [eupd_ne fun z => e (H.inj y hy x hx z), updF_ne e]; exact H.us y hy
theorem LH.use_new (H : LH eh0 eh pp pl pi pu par pr qu ik I uk ul ua) {x h : Cel} {l : Addr} {v0 : Option EO} (hx : x ∉ uk) (hl : eh l = none) :
    LH eh0 (eupd (eupd (eupd eh l v0) pu (some (.dN (putN (celD (fun x => .ref (ua x)) uk) (cK x) (.ref l))))) l (some (.lst [cellE h]))) pp pl pi pu par pr qu ik I (uk ++ [x]) (updF ul x [h]) (updF ua x l) := by
  have n : ∀ {a : Addr} {v : EO}, eh a = some v → a ≠ l := fun e z => by rw [z, hl] at e; cases e
  obtain ⟨l1, l2, l3⟩ := H.lp
  have un : ∀ y ∈ uk, y ≠ x := fun y hy e => hx (e ▸ hy)
  refine ⟨?_, ?_, ?_, ?_, fun y hy => ?_, H.nip, H.nup, H.nui, fun y hy => ?_, fun y hy z hz e => ?_, H.zp, H.zl, H.zi, H.zu, fun y hy => ?_, ((H.kp.set (kp_none H.kp hl)).set H.zu).set (kp_none H.kp hl)⟩
  · rw [eupd_ne (n H.hp), eupd_ne H.nup.symm, eupd_ne (n H.hp)]; exact H.hp
  · rw [eupd_ne (n H.hl), eupd_ne l3, eupd_ne (n H.hl)]; exact H.hl
  · rw [eupd_ne (n H.hi), eupd_ne H.nui.symm, eupd_ne (n H.hi)]; exact H.hi
  · rw [eupd_ne (n H.hu), eupd_same, putN_new hx]
    congr 2
    refine celD_congr fun y _ => ?_
    by_cases e : y = x
    · subst e; rw [updF_same, updF_same]
    · rw [updF_ne e, updF_ne e]
  · by_cases e : y = x
    · subst e; rw [updF_same, updF_same, eupd_same]; rfl
    · have hy : y ∈ uk := by simpa [e] using hy
      rw [updF_ne e, updF_ne e, eupd_ne (n (H.us y hy)), eupd_ne (H.au hy).2.2, eupd_ne (n (H.us y hy))]
      exact H.us y hy
  · by_cases e : y = x
    · subst e; rw [updF_same]; exact (n H.hl).symm
    · have hy : y ∈ uk := by simpa [e] using hy
      rw [updF_ne e]; exact H.nl y hy
  · by_cases e1 : y = x
    · by_cases e2 : z = x
      · rw [e1, e2]
      · have hz : z ∈ uk := by simpa [e2] using hz
        rw [e1, updF_same, updF_ne e2] at e
        exact absurd e.symm (n (H.us z hz))
    · have hy : y ∈ uk := by simpa [e1] using hy
      by_cases e2 : z = x
      · rw [e2, updF_same, updF_ne e1] at e
        exact absurd e (n (H.us y hy))
      · have hz : z ∈ uk := by simpa [e2] using hz
        rw [updF_ne e1, updF_ne e2] at e
        exact H.inj y hy z hz e
  · by_cases e : y = x
    · subst e; rw [updF_same]; exact kp_none H.kp hl
    · have hy : y ∈ uk := by simpa [e] using hy
      rw [updF_ne e]; exact H.za y hy
theorem setdN_i {ma mb mc : ME} {xc : XC} {es : Es} {eh : Eh} {q : KE} (h : ma xc es eh fun x eh1 => ∃ p, x = .ref p ∧ (∃ kvs, eh1 p = some (.dN kvs)) ∧ mb xc es eh1 fun y eh2 => mc xc es eh2 fun z eh3 => ∃ kvs ks, eh3 p = some (.dN kvs) ∧ keyN y = some (.tup ks) ∧ (NestedKey.tup ks).depth ≤ 8 ∧ kvs.length < sizeLine ∧
  match getN kvs (.tup ks) with
  | some v => q v eh3
  | none => q z (eupd eh3 p (some (.dN (putN kvs (.tup ks) z))))) : mSetdN ma mb mc xc es eh q := h
def useS : MS := (sExpr (mBM isLst oAppend (mSetdN (mVar 5) (mVar 10) (mLstR aNil)) (aCons (mVar 9) aNil)))
theorem use_ok {xc : XC} {d : Dn} {R0 B0 z2 z3 z4 z6 z7 z8 z11 z12 : Option EV} {h x : Cel} (H : LH eh0 eh pp pl pi pu par pr qu ik I uk ul ua) (hz : ∀ y ∈ uk, (ul y).length ≤ 4000) (hk : uk.length ≤ 4000)
    (k : ∀ eh' uk' ul' ua', LH eh0 eh' pp pl pi pu par pr qu ik I uk' ul' ua' → ((x ∈ uk ∧ uk' = uk ∧ ul' = updF ul x (ul x ++ [h])) ∨ (x ∉ uk ∧ uk' = uk ++ [x] ∧ ul' = updF ul x [h])) → d.nx [R0, B0, z2, z3, z4, some (.ref pu), z6, z7, z8, some (cellE h), some (cellE x), z11, z12] eh') :
    useS xc d [R0, B0, z2, z3, z4, some (.ref pu), z6, z7, z8, some (cellE h), some (cellE x), z11, z12] eh := by
  unfold useS
  refine expr_i ?_
  refine bm_i ?_
  refine setdN_i ?_
  walk_at "go"
  refine ⟨pu, rfl, ⟨_, H.hu⟩, ?_⟩
  walk_at "go"
  intro l hl
  have G := H.gar (o := some (.lst [])) hl
  refine ⟨_, _, G.hu, keyN_cell x, cK_depth x, szT (by unfold celD; rw [List.length_map]; omega), ?_⟩
  by_cases hx : x ∈ uk
  · have g : getN (celD (fun x => EV.ref (ua x)) uk) (cK x) = some (.ref (ua x)) := (getN_cell (f := fun x => EV.ref (ua x))).trans (if_pos hx)
    rw [show getN (celD (fun x => EV.ref (ua x)) uk) (NestedKey.tup [.text x.1, .tup (x.2.map .num)]) = some (.ref (ua x)) from g]
    dsimp only
    refine ⟨isLst_c (G.us x hx), ?_⟩
    walk_at "go"
    refine ⟨_, G.us x hx, szT (by rw [List.length_map]; have := hz x hx; omega), ?_⟩
    have e : (ul x).map cellE ++ [cellE h] = (ul x ++ [h]).map cellE := by simp
    rw [e]
    exact k _ _ _ _ (G.use_old hx) (.inl ⟨hx, rfl, rfl⟩)
  · have g : getN (celD (fun x => EV.ref (ua x)) uk) (cK x) = none := (getN_cell (f := fun x => EV.ref (ua x))).trans (if_neg hx)
    rw [show getN (celD (fun x => EV.ref (ua x)) uk) (NestedKey.tup [.text x.1, .tup (x.2.map .num)]) = none from g]
    dsimp only
    have nl : l ≠ pu := fun z => by rw [z, H.hu] at hl; cases hl
    have hl2 : (eupd (eupd eh l (some (.lst []))) pu (some (.dN (putN (celD (fun x => EV.ref (ua x)) uk) (NestedKey.tup [.text x.1, .tup (x.2.map .num)]) (.ref l))))) l = some (.lst []) := by rw [eupd_ne nl, eupd_same]
    refine ⟨isLst_c hl2, ?_⟩
    walk_at "go"
    refine ⟨_, hl2, szT (by simp), ?_⟩
    exact k _ _ _ _ (H.use_new hx hl) (.inr ⟨hx, rfl, rfl⟩)
end

/-! ### the law's own search, walked: all cells -/
section
variable {eh0 eh : Eh} {pp pl pi pu : Addr} {par : List Cel} {pr : Cel → Option Cel} {qu ik : List Cel} {I : Cel → List Cel} {uk : List Cel} {ul : Cel → List Cel} {ua : Cel → Addr}
theorem prE_upd {pr : Cel → Option Cel} {x h : Cel} : updF (prE pr) x (cellE h) = prE (updF pr x (some h)) := funext fun c => by
  by_cases e : c = x
  · subst e; rw [updF_same]; unfold prE; rw [updF_same]
  · rw [updF_ne e]; unfold prE; rw [updF_ne e]
theorem LH.par1 (H : LH eh0 eh pp pl pi pu par pr qu ik I uk ul ua) {x h : Cel} (hx : x ∉ par) : LH eh0 (eupd eh pp (some (.dN (putN (celD (prE pr) par) (cK x) (cellE h))))) pp pl pi pu (par ++ [x]) (updF pr x (some h)) qu ik I uk ul ua :=
  ⟨by rw [eupd_same, putN_new hx, prE_upd], by rw [eupd_ne H.lp.1]; exact H.hl, by rw [eupd_ne H.nip]; exact H.hi, by rw [eupd_ne H.nup]; exact H.hu, fun y hy => by rw [eupd_ne (H.au hy).1]; exact H.us y hy,
    H.nip, H.nup, H.nui, H.nl, H.inj, H.zp, H.zl, H.zi, H.zu, H.za, H.kp.set H.zp⟩
theorem LH.line (H : LH eh0 eh pp pl pi pu par pr qu ik I uk ul ua) (qu' : List Cel) : LH eh0 (eupd eh pl (some (.lst (qu'.map cellE)))) pp pl pi pu par pr qu' ik I uk ul ua :=
  ⟨by rw [eupd_ne H.lp.1.symm]; exact H.hp, eupd_same, by rw [eupd_ne H.lp.2.1.symm]; exact H.hi, by rw [eupd_ne H.lp.2.2.symm]; exact H.hu, fun y hy => by rw [eupd_ne (H.nl y hy)]; exact H.us y hy,
    H.nip, H.nup, H.nui, H.nl, H.inj, H.zp, H.zl, H.zi, H.zu, H.za, H.kp.set H.zl⟩
theorem LH.inn (H : LH eh0 eh pp pl pi pu par pr qu ik I uk ul ua) {h : Cel} {T : List Cel} (hh : h ∉ ik) : LH eh0 (eupd eh pi (some (.dN (putN (celD (fun c => .lst ((I c).map cellE)) ik) (cK h) (.lst (T.map cellE)))))) pp pl pi pu par pr qu (ik ++ [h]) (updF I h T) uk ul ua :=
  ⟨by rw [eupd_ne H.nip.symm]; exact H.hp, by rw [eupd_ne H.lp.2.1]; exact H.hl, by
    rw [eupd_same, putN_new hh]
    congr 2
    refine celD_congr fun c _ => ?_
    by_cases e : c = h
    · subst e; rw [updF_same, updF_same]
    · rw [updF_ne e, updF_ne e], by rw [eupd_ne H.nui]; exact H.hu, fun y hy => by rw [eupd_ne (H.au hy).2.1]; exact H.us y hy,
    H.nip, H.nup, H.nui, H.nl, H.inj, H.zp, H.zl, H.zi, H.zu, H.za, H.kp.set H.zi⟩
end
section
variable {dims md : Int} {rows : List Row} {b : Cel}
/-- what the turns over the cells read keep -/
structure St (rs : List Row) (b : Cel) (eh0 eh : Eh) (pp pl pi pu : Addr) (h : Cel) (T pre dn : List Cel) (I : Cel → List Cel) (N : Nat) (par : List Cel) (pr : Cel → Option Cel) (qu uk : List Cel) (ul : Cel → List Cel) (ua : Cel → Addr) : Prop where
  B : Bf (nextC rs) b par pr dn (h :: qu) I
  H : LH eh0 eh pp pl pi pu par pr qu (dn ++ [h]) (updF I h T) uk ul ua
  U : Us (fun c x => (c ∈ dn ∧ x ∈ I c) ∨ (c = h ∧ x ∈ pre)) uk ul
  ps : ∀ x ∈ pre, x ∈ par
  ln : par.length ≤ N + pre.length
theorem par_ok {rs : List Row} {par dn qu : List Cel} {pr : Cel → Option Cel} {I : Cel → List Cel} (R : SysR dims rs) (B : Bf (nextC rs) b par pr dn qu I) (hb : cellOk dims rs b = true) : ∀ c ∈ par, cellOk dims rs c = true := fun c hc => by
  rcases B.reach' hc with rfl | p
  · exact hb
  · exact p.ok (mon_next R) hb
theorem one_fz {xc : XC} {d : Dn} {rs : List Row} {R0 B0 z6 z7 z8 z11 z12 : Option EV} {eh0 eh : Eh} {pp pl pi pu : Addr} {h x : Cel} {T pre L dn : List Cel} {I : Cel → List Cel} {N : Nat} {par : List Cel} {pr : Cel → Option Cel} {qu uk : List Cel} {ul : Cel → List Cel} {ua : Cel → Addr}
    (R : SysR dims rs) (hb : cellOk dims rs b = true) (hT : T.Nodup) (hTn : ∀ x, x ∈ T ↔ x ∈ nextC rs h) (eT : pre ++ x :: L = T) (hN : N + T.length ≤ 3000) (S : St rs b eh0 eh pp pl pi pu h T pre dn I N par pr qu uk ul ua)
    (k0 : ¬ Rdy (nextC rs) b → ∀ eh', Kp eh0 eh' → d.rt .non eh')
    (k1 : ∀ eh' par' pr' qu' uk' ul' ua' z12, St rs b eh0 eh' pp pl pi pu h T (pre ++ [x]) dn I N par' pr' qu' uk' ul' ua' → d.nx [R0, B0, some (.ref pp), some (.ref pl), some (.ref pi), some (.ref pu), z6, z7, z8, some (cellE h), some (cellE x), z11, z12] eh') :
    bd__law_lengths_2 xc d [R0, B0, some (.ref pp), some (.ref pl), some (.ref pi), some (.ref pu), z6, z7, z8, some (cellE h), some (cellE x), z11, z12] eh := by
  have hx : x ∈ T := by rw [← eT]; simp
  have xp : x ∉ pre := fun z => by
    rw [← eT, List.nodup_append] at hT
    exact hT.2.2 x z x (by simp) rfl
  have plen : pre.length + 1 ≤ T.length := by rw [← eT]; simp
  have hpar : h ∈ par := by rw [S.B.eq]; simp
  have hdn : h ∉ dn := fun z => by
    have := S.B.nd
    rw [S.B.eq, List.nodup_append] at this
    exact this.2.2 h z h (by simp) rfl
  have pln := S.ln
  have dln : dn.length + 1 ≤ par.length := by rw [S.B.eq]; simp
  have ukp : ∀ y ∈ uk, y ∈ par := fun y hy => by
    obtain ⟨c, h1 | h1⟩ := (S.U.k y).mp hy
    · exact (S.B.li c h1.1).2.2 y h1.2
    · exact S.ps y h1.2
  have ukl := nodup_leC S.U.nd ukp
  have ull : ∀ y ∈ uk, (ul y).length ≤ 4000 := fun y hy => by
    obtain ⟨m1, m2⟩ := S.U.m y hy
    have := nodup_leC (M := dn ++ [h]) m1 fun c hc => by
      rcases (m2 c).mp hc with h1 | h1
      · simp [h1.1]
      · simp [h1.1]
    rw [List.length_append, List.length_singleton] at this
    omega
  have nR : ¬ ((h ∈ dn ∧ x ∈ I h) ∨ (h = h ∧ x ∈ pre)) := fun z => z.elim (fun z => hdn z.1) fun z => xp z.2
  have Rp : ∀ c y, ((c ∈ dn ∧ y ∈ I c) ∨ (c = h ∧ y ∈ pre ++ [x])) ↔ (((c ∈ dn ∧ y ∈ I c) ∨ (c = h ∧ y ∈ pre)) ∨ (c = h ∧ y = x)) := fun c y => by
    rw [List.mem_append, List.mem_singleton]
    constructor
    · rintro (h1 | ⟨h1, h2 | h2⟩)
      · exact .inl (.inl h1)
      · exact .inl (.inr ⟨h1, h2⟩)
      · exact .inr ⟨h1, h2⟩
    · rintro ((h1 | h1) | h1)
      · exact .inl h1
      · exact .inr ⟨h1.1, .inl h1.2⟩
      · exact .inr ⟨h1.1, .inr h1.2⟩
  unfold bd__law_lengths_2
  refine seq_i ?_
  refine use_ok S.H ull (by omega) fun eh1 uk' ul' ua' H1 hu => ?_
  have U1 : Us (fun c y => (c ∈ dn ∧ y ∈ I c) ∨ (c = h ∧ y ∈ pre ++ [x])) uk' ul' := by
    refine Us.congr ?_ Rp
    rcases hu with ⟨h1, rfl, rfl⟩ | ⟨h1, rfl, rfl⟩
    · exact S.U.old h1 nR
    · exact S.U.new h1
  dsimp only
  walk_at "go"
  refine ⟨pp, _, _, rfl, H1.hp, keyN_cell x, cK_depth x, ?_⟩
  have g : (getN (celD (prE pr) par) (cK x)).isSome = decide (x ∈ par) := getN_some
  rw [show (getN (celD (prE pr) par) (NestedKey.tup [.text x.1, .tup (x.2.map .num)])).isSome = decide (x ∈ par) from g]
  refine ⟨_, rfl, ?_⟩
  by_cases hxp : x ∈ par
  · rw [decide_eq_true hxp]
    show d.nx _ _
    refine k1 eh1 par pr qu uk' ul' ua' _ ⟨S.B, H1, U1, fun y hy => ?_, by rw [List.length_append, List.length_singleton]; omega⟩
    rcases List.mem_append.mp hy with hy | hy
    · exact S.ps y hy
    · rw [List.mem_singleton.mp hy]; exact hxp
  · rw [decide_eq_false hxp]
    dsimp only [bne, BEq.beq]
    refine (show ∀ {p q : Prop}, p → bif true then p else q from fun h => h) ?_
    walk_at "go"
    have hxn := (hTn x).mp hx
    refine above_ok R S.B hb hpar hxn H1.hp (fun c hc => by have := (cellOk_len (par_ok R S.B hb c hc)).1; have := R.d; omega) (fun hn => k0 hn _ H1.kp) fun z12 => ?_
    dsimp only
    refine seq_i ?_
    refine dputN_i ?_
    walk_at "go"
    refine ⟨pp, _, _, rfl, H1.hp, keyN_cell x, cK_depth x, szT (by unfold celD; rw [List.length_map]; omega), ?_⟩
    have H2 := H1.par1 (x := x) (h := h) hxp
    walk_at "go"
    refine ⟨isLst_c H2.hl, ?_⟩
    walk_at "go"
    refine ⟨_, H2.hl, szT (by rw [List.length_map]; have := S.B.eq; have := congrArg List.length this; simp at this; omega), ?_⟩
    have e : qu.map cellE ++ [cellE x] = (qu ++ [x]).map cellE := by simp
    rw [e]
    refine k1 _ (par ++ [x]) (updF pr x (some h)) (qu ++ [x]) uk' ul' ua' _ ⟨S.B.add hpar hxp hxn, H2.line (qu ++ [x]), U1, fun y hy => ?_, by simp only [List.length_append, List.length_singleton]; omega⟩
    rcases List.mem_append.mp hy with hy | hy
    · exact List.mem_append.mpr (.inl (S.ps y hy))
    · exact List.mem_append.mpr (.inr hy)
end

/-! ### the law's own search, walked: the line -/
section
variable {dims md : Int} {rows : List Row} {b : Cel}
/-- more cells are reached than the law looks at -/
def Man (nx : Cel → List Cel) (b : Cel) : Prop := ∃ par : List Cel, par.Nodup ∧ 1500 < par.length ∧ ∀ c ∈ par, c = b ∨ Pth nx c b
/-- all cells that are met, with what they read and who uses them -/
structure Al (rs : List Row) (b : Cel) (eh0 eh : Eh) (pp pl pi pu : Addr) (par : List Cel) (pr : Cel → Option Cel) (qu dn : List Cel) (I : Cel → List Cel) (uk : List Cel) (ul : Cel → List Cel) (ua : Cel → Addr) : Prop where
  B : Bf (nextC rs) b par pr dn qu I
  H : LH eh0 eh pp pl pi pu par pr qu dn I uk ul ua
  U : Us (fun c x => c ∈ dn ∧ x ∈ I c) uk ul
  ln : par.length ≤ 1500
theorem turn_fz {xc : XC} {d : Dn} {z6 z7 z8 z9 z10 z11 z12 : Option EV} {eh0 eh : Eh} {pp pl pi pu : Addr} {h : Cel} {dn : List Cel} {I : Cel → List Cel} {par : List Cel} {pr : Cel → Option Cel} {qu uk : List Cel} {ul : Cel → List Cel} {ua : Cel → Addr}
    (fit : SysFit dims md rows) (hb : cellOk dims (sortR rows) b = true) (A : Al (sortR rows) b eh0 eh pp pl pi pu par pr (h :: qu) dn I uk ul ua)
    (k0 : ¬ Rdy (nextC (sortR rows)) b → ∀ eh', Kp eh0 eh' → d.rt .non eh') (k2 : Man (nextC (sortR rows)) b → ∀ p eh', eh0 p = none → eh' p = some (.dN []) → Kp eh0 eh' → d.rt (.ref p) eh')
    (k1 : ∀ eh' par' pr' qu' I' uk' ul' ua' z9 z10 z12, Al (sortR rows) b eh0 eh' pp pl pi pu par' pr' qu' (dn ++ [h]) I' uk' ul' ua' → d.nx [some (.lst (rows.map rowE)), some (cellE b), some (.ref pp), some (.ref pl), some (.ref pi), some (.ref pu), z6, z7, z8, z9, z10, z11, z12] eh') :
    bd__law_lengths_3 xc d [some (.lst (rows.map rowE)), some (cellE b), some (.ref pp), some (.ref pl), some (.ref pi), some (.ref pu), z6, z7, z8, z9, z10, z11, z12] eh := by
  have R := fit.toR
  have hpar : h ∈ par := by rw [A.B.eq]; simp
  have hok := par_ok R A.B hb h hpar
  have hdn : h ∉ dn := fun z => by
    have := A.B.nd
    rw [A.B.eq, List.nodup_append] at this
    exact this.2.2 h z h (by simp) rfl
  have dln : dn.length + 1 ≤ par.length := by rw [A.B.eq]; simp
  have aln := A.ln
  unfold bd__law_lengths_3
  walk_at "go"
  refine ⟨isLst_c A.H.hl, ?_⟩
  walk_at "go"
  refine ⟨(h :: qu).map cellE, 0, cellE h, A.H.hl, by decide, by decide, by unfold ixN; rw [if_pos (by decide), if_pos (by simp)]; rfl, rfl, ?_⟩
  have H1 := A.H.line qu
  rw [show ((h :: qu).map cellE).eraseIdx 0 = qu.map cellE from rfl]
  refine seq_i ?_
  refine dputN_i ?_
  refine sortsetN_c ?_
  walk_at "go"
  refine from_fz2 rfl fit hok ?_
  have nl := nextC_len R hok
  obtain ⟨q1, q2, q3, q4, q5, q6, q7⟩ := cel_pre (eh := eupd eh pl (some (.lst (qu.map cellE)))) (cs := nextC (sortR rows) h) (by omega)
  refine ⟨_, q1, q2, q3, q4, q5, q6, q7, fun js jn jm => ?_⟩
  obtain ⟨T, eT, hT, hTn⟩ := cel_T jn jm
  rw [eT]
  have tl : T.length ≤ 12 := Nat.le_trans (nodup_leC hT fun c hc => (hTn c).mp hc) nl
  walk_at "go"
  refine ⟨pi, _, _, rfl, H1.hi, keyN_cell h, cK_depth h, szT (by unfold celD; rw [List.length_map]; omega), ?_⟩
  have H2 := H1.inn (h := h) (T := T) hdn
  walk_at "go"
  have gi : getN (celD (fun c => EV.lst ((updF I h T c).map cellE)) (dn ++ [h])) (cK h) = some (.lst (T.map cellE)) := by
    refine (getN_cell (f := fun c => EV.lst ((updF I h T c).map cellE))).trans ?_
    rw [if_pos (by simp), updF_same]
  refine ⟨pi, _, _, .lst (T.map cellE), rfl, H2.hi, keyN_cell h, cK_depth h, gi, ?_⟩
  refine ⟨_, _, rfl, ?_⟩
  refine for_inv (c := cellE) (fun L es eh' => ∃ pre par' pr' qu' uk' ul' ua' z10 z12, pre ++ L = T ∧ St (sortR rows) b eh0 eh' pp pl pi pu h T pre dn I par.length par' pr' qu' uk' ul' ua' ∧ es = [some (.lst (rows.map rowE)), some (cellE b), some (.ref pp), some (.ref pl), some (.ref pi), some (.ref pu), z6, z7, z8, some (cellE h), z10, z11, z12])
    ⟨[], par, pr, qu, uk, ul, ua, z10, z12, rfl, ⟨A.B, H2, A.U.congr fun c x => by simp, by simp, by simp⟩, rfl⟩ ?_ ?_
  · rintro x L es eh' ⟨pre, par', pr', qu', uk', ul', ua', z10, z12, eL, S, rfl⟩
    refine ⟨trivial, asgx_i rfl fun d' hrt hnx _ _ => ?_⟩
    refine one_fz R hb hT hTn eL (by omega) S (fun hn eh2 kp => by rw [hrt]; exact k0 hn eh2 kp) fun eh2 par2 pr2 qu2 uk2 ul2 ua2 z12 S2 => ?_
    exact hnx _ _ ⟨pre ++ [x], par2, pr2, qu2, uk2, ul2, ua2, _, _, by rw [← eL]; simp, S2, rfl⟩
  · rintro es eh' ⟨pre, par', pr', qu', uk', ul', ua', z10, z12, eL, S, rfl⟩
    rw [List.append_nil] at eL
    subst eL
    refine ⟨trivial, ?_⟩
    have sln := S.ln
    dsimp only
    walk_at "go"
    refine ⟨_, _, rfl, .inl ⟨pp, rfl, S.H.hp⟩, ?_⟩
    walk_at "go"
    rw [show (celD (prE pr') par').length = par'.length by unfold celD; rw [List.length_map]]
    by_cases big : (1500 : Int) < (par'.length : Nat)
    · rw [decide_eq_true big]
      walk_at "go"
      intro p hp
      exact k2 ⟨par', S.B.nd, by omega, fun c hc => S.B.reach' hc⟩ p _ (kp_none S.H.kp hp) eupd_same (S.H.kp.set (kp_none S.H.kp hp))
    · rw [decide_eq_false big]
      walk_at "go"
      refine k1 _ par' pr' qu' (updF I h pre) uk' ul' ua' _ _ _ ⟨S.B.take hT hTn S.ps, S.H, S.U.congr fun c x => ?_, by omega⟩
      rw [List.mem_append, List.mem_singleton]
      constructor
      · rintro ⟨h1 | h1, h2⟩
        · have : c ≠ h := fun e => hdn (e ▸ h1)
          rw [updF_ne this] at h2
          exact .inl ⟨h1, h2⟩
        · subst h1
          rw [updF_same] at h2
          exact .inr ⟨rfl, h2⟩
      · rintro (⟨h1, h2⟩ | ⟨h1, h2⟩)
        · have : c ≠ h := fun e => hdn (e ▸ h1)
          exact ⟨.inl h1, by rw [updF_ne this]; exact h2⟩
        · subst h1
          exact ⟨.inr rfl, by rw [updF_same]; exact h2⟩
theorem line_fz {xc : XC} {d : Dn} {z6 z7 z8 z9 z10 z11 z12 : Option EV} {eh0 eh : Eh} {pp pl pi pu : Addr} {par : List Cel} {pr : Cel → Option Cel} {qu dn : List Cel} {I : Cel → List Cel} {uk : List Cel} {ul : Cel → List Cel} {ua : Cel → Addr}
    (fit : SysFit dims md rows) (hb : cellOk dims (sortR rows) b = true) (A : Al (sortR rows) b eh0 eh pp pl pi pu par pr qu dn I uk ul ua)
    (k0 : ¬ Rdy (nextC (sortR rows)) b → ∀ eh', Kp eh0 eh' → d.rt .non eh') (k2 : Man (nextC (sortR rows)) b → ∀ p eh', eh0 p = none → eh' p = some (.dN []) → Kp eh0 eh' → d.rt (.ref p) eh')
    (k1 : ∀ eh' par' pr' I' uk' ul' ua' z9 z10 z12, Al (sortR rows) b eh0 eh' pp pl pi pu par' pr' [] par' I' uk' ul' ua' → d.nx [some (.lst (rows.map rowE)), some (cellE b), some (.ref pp), some (.ref pl), some (.ref pi), some (.ref pu), z6, z7, z8, z9, z10, z11, z12] eh') :
    sWhile (tVal (mOp (cEq true) (mVar 3) (mLst aNil))) bd__law_lengths_3 xc d [some (.lst (rows.map rowE)), some (cellE b), some (.ref pp), some (.ref pl), some (.ref pi), some (.ref pu), z6, z7, z8, z9, z10, z11, z12] eh := by
  refine while_inv (fun t es eh' => ∃ par' pr' qu' dn' I' uk' ul' ua' z9 z10 z12, t + dn'.length = 1501 ∧ Al (sortR rows) b eh0 eh' pp pl pi pu par' pr' qu' dn' I' uk' ul' ua' ∧ es = [some (.lst (rows.map rowE)), some (cellE b), some (.ref pp), some (.ref pl), some (.ref pi), some (.ref pu), z6, z7, z8, z9, z10, z11, z12]) (1501 - dn.length)
    ⟨par, pr, qu, dn, I, uk, ul, ua, z9, z10, z12, by have := A.ln; have := congrArg List.length A.B.eq; simp at this; omega, A, rfl⟩ ?_
  rintro t es eh' ⟨par', pr', qu', dn', I', uk', ul', ua', z9, z10, z12, ht, A', rfl⟩ qt hq
  walk_at "go"
  refine neC_i (fro_ref A'.H.hl) ?_
  refine ⟨_, rfl, ?_⟩
  cases qu' with
  | nil =>
    refine hq _ _ (fun z => nomatch z) fun _ => ?_
    have e := A'.B.eq
    rw [List.append_nil] at e
    subst e
    exact k1 _ _ _ _ _ _ _ _ _ _ A'
  | cons h qu' =>
    refine hq _ _ (fun _ d' hrt hnx _ _ => ?_) fun z => nomatch z
    have dl : dn'.length + 1 ≤ 1500 := by have := A'.ln; have := congrArg List.length A'.B.eq; simp at this; omega
    refine turn_fz fit hb A' (fun hn eh2 kp => by rw [hrt]; exact k0 hn eh2 kp) (fun hm p eh2 h1 h2 h3 => by rw [hrt]; exact k2 hm p eh2 h1 h2 h3) fun eh2 par2 pr2 qu2 I2 uk2 ul2 ua2 z9 z10 z12 A2 => ?_
    exact hnx (t - 1) _ _ (by omega) ⟨par2, pr2, qu2, dn' ++ [h], I2, uk2, ul2, ua2, _, _, _, by simp; omega, A2, rfl⟩
end

/-! ### the law's own search, walked: cells peeled -/
def cKs (c : Cel) : List NestedKey := [.text c.1, .tup (c.2.map .num)]
theorem cKs_inj {c d : Cel} (h : cKs c = cKs d) : c = d := cK_inj (congrArg NestedKey.tup h)
/-- dict(pairs of a cell and what belongs to it) -/
theorem dictPN_i {f : Cel → EV} {K : List Cel} {x : EV} {eh : Eh} {q : KE} (hn : K.Nodup) (hx : lstE eh x = some (K.map fun c => .tup [cellE c, f c])) (k : ∀ p, eh p = none → q (.ref p) (eupd eh p (some (.dN (celD f K))))) : bDictPN [x] eh q := by
  have e1 : ((K.map cellE).zip (K.map f)).map (fun p => EV.tup [p.1, p.2]) = K.map fun c => .tup [cellE c, f c] := by
    induction K with
    | nil => rfl
    | cons c K ih =>
      rw [List.nodup_cons] at hn
      have : ∀ (K : List Cel), ((K.map cellE).zip (K.map f)).map (fun p => EV.tup [p.1, p.2]) = K.map fun c => .tup [cellE c, f c] := fun K => by
        induction K with
        | nil => rfl
        | cons c K ih => rw [List.map_cons, List.map_cons, List.zip_cons_cons, List.map_cons, ih]; rfl
      exact this (c :: K)
  have e2 : ((K.map cKs).zip (K.map f)).map (fun r => (NestedKey.tup r.1, r.2)) = celD f K := by
    have : ∀ (K : List Cel), ((K.map cKs).zip (K.map f)).map (fun r => (NestedKey.tup r.1, r.2)) = celD f K := fun K => by
      induction K with
      | nil => rfl
      | cons c K ih => rw [List.map_cons, List.map_cons, List.zip_cons_cons, List.map_cons, ih]; rfl
    exact this K
  refine ⟨x, K.map cellE, K.map f, K.map cKs, rfl, by rw [e1]; exact hx, ?_, fun k hk => ?_, ?_, by rw [List.length_map, List.length_map], fun p hp => ?_⟩
  · rw [List.map_map, List.map_map]
    exact List.map_congr_left fun c _ => keyN_cell c
  · obtain ⟨c, _, rfl⟩ := List.mem_map.mp hk
    exact cK_depth c
  · rw [List.nodup_iff_pairwise_ne, List.pairwise_map]
    exact (List.nodup_iff_pairwise_ne.mp hn).imp fun h e => h (cKs_inj e)
  · rw [e2]; exact k p hp
theorem maxL_i {ns : List Int} {eh : Eh} {q : KE} (h : ns ≠ []) (k : q (.int (mxI ns)) eh) : bMax [.lst (ns.map .int)] eh q := by
  cases ns with
  | nil => exact absurd rfl h
  | cons n r => exact ⟨_, n, r, rfl, intsE_map (n :: r), k⟩
theorem getN_c {f : Cel → EV} {c : Cel} {K : List Cel} (h : c ∈ K) : getN (celD f K) (cK c) = some (f c) := (getN_cell (f := f)).trans (if_pos h)
abbrev inE (I : Cel → List Cel) : Cel → EV := fun c => .lst ((I c).map cellE)
abbrev nmE (f : Cel → Int) : Cel → EV := fun c => .int (f c)
theorem nmE_upd {f : Cel → Int} {c : Cel} {v : Int} : updF (nmE f) c (.int v) = nmE (updF f c v) := funext fun x => by
  by_cases e : x = c
  · subst e; rw [updF_same]; unfold nmE; rw [updF_same]
  · rw [updF_ne e]; unfold nmE; rw [updF_ne e]
/-- what the peeling keeps in the heap -/
structure PH (eh0 eh : Eh) (pu pf pe pk : Addr) (uk : List Cel) (ul : Cel → List Cel) (ua : Cel → Addr) (K : List Cel) (lf : Cel → Int) (En lk : List Cel) (lv : Cel → Int) : Prop where
  hu : eh pu = some (.dN (celD (fun x => .ref (ua x)) uk))
  us : ∀ x ∈ uk, eh (ua x) = some (.lst ((ul x).map cellE))
  hf : eh pf = some (.dN (celD (nmE lf) K))
  he : eh pe = some (.lst (En.map cellE))
  hk : eh pk = some (.dN (celD (nmE lv) lk))
  fu : pf ≠ pu
  ku : pk ≠ pu
  kf : pk ≠ pf
  eu : ∀ x ∈ uk, ua x ≠ pe
  zf : eh0 pf = none
  ze : eh0 pe = none
  zk : eh0 pk = none
  kp : Kp eh0 eh
section
variable {eh0 eh : Eh} {pu pf pe pk : Addr} {uk : List Cel} {ul : Cel → List Cel} {ua : Cel → Addr} {K En lk : List Cel} {lf lv : Cel → Int}
theorem PH.au (H : PH eh0 eh pu pf pe pk uk ul ua K lf En lk lv) {x : Cel} (hx : x ∈ uk) : ua x ≠ pf ∧ ua x ≠ pk :=
  ⟨fun z => (by have := H.us x hx; rw [z, H.hf] at this; cases this), fun z => (by have := H.us x hx; rw [z, H.hk] at this; cases this)⟩
theorem PH.ne (H : PH eh0 eh pu pf pe pk uk ul ua K lf En lk lv) : pe ≠ pu ∧ pe ≠ pf ∧ pe ≠ pk :=
  ⟨fun z => (by have := H.he; rw [z, H.hu] at this; cases this), fun z => (by have := H.he; rw [z, H.hf] at this; cases this), fun z => (by have := H.he; rw [z, H.hk] at this; cases this)⟩
theorem PH.left (H : PH eh0 eh pu pf pe pk uk ul ua K lf En lk lv) {u : Cel} {v : Int} (hu : u ∈ K) : PH eh0 (eupd eh pf (some (.dN (putN (celD (nmE lf) K) (cK u) (.int v))))) pu pf pe pk uk ul ua K (updF lf u v) En lk lv :=
  ⟨by rw [eupd_ne H.fu.symm]; exact H.hu, fun x hx => by rw [eupd_ne (H.au hx).1]; exact H.us x hx, by rw [eupd_same, putN_old hu, nmE_upd], by rw [eupd_ne H.ne.2.1]; exact H.he, by rw [eupd_ne H.kf]; exact H.hk, H.fu, H.ku, H.kf, H.eu, H.zf, H.ze, H.zk, H.kp.set H.zf⟩
theorem PH.lens (H : PH eh0 eh pu pf pe pk uk ul ua K lf En lk lv) {u : Cel} {v : Int} (hu : u ∉ lk) : PH eh0 (eupd eh pk (some (.dN (putN (celD (nmE lv) lk) (cK u) (.int v))))) pu pf pe pk uk ul ua K lf En (lk ++ [u]) (updF lv u v) :=
  ⟨by rw [eupd_ne H.ku.symm]; exact H.hu, fun x hx => by rw [eupd_ne (H.au hx).2]; exact H.us x hx, by rw [eupd_ne H.kf.symm]; exact H.hf, by rw [eupd_ne H.ne.2.2]; exact H.he, by rw [eupd_same, putN_new hu, nmE_upd], H.fu, H.ku, H.kf, H.eu, H.zf, H.ze, H.zk, H.kp.set H.zk⟩
theorem PH.ends (H : PH eh0 eh pu pf pe pk uk ul ua K lf En lk lv) (En' : List Cel) : PH eh0 (eupd eh pe (some (.lst (En'.map cellE)))) pu pf pe pk uk ul ua K lf En' lk lv :=
  ⟨by rw [eupd_ne H.ne.1.symm]; exact H.hu, fun x hx => by rw [eupd_ne (H.eu x hx)]; exact H.us x hx, by rw [eupd_ne H.ne.2.1.symm]; exact H.hf, eupd_same, by rw [eupd_ne H.ne.2.2.symm]; exact H.hk, H.fu, H.ku, H.kf, H.eu, H.zf, H.ze, H.zk, H.kp.set H.ze⟩
/-- the lengths told so far -/
def LvP (I : Cel → List Cel) (lk : List Cel) (lv : Cel → Int) : Prop := ∀ c ∈ lk, lv c = if I c = [] then 0 else 1 + mxI ((I c).map lv)
theorem LvP.add {I : Cel → List Cel} (h : LvP I lk lv) (hs : ∀ c ∈ lk, ∀ x ∈ I c, x ∈ lk) {u : Cel} (hu : u ∉ lk) (hx : ∀ x ∈ I u, x ∈ lk) (hne : I u ≠ []) : LvP I (lk ++ [u]) (updF lv u (1 + mxI ((I u).map lv))) := fun c hc => by
  have same : ∀ c : Cel, (∀ x ∈ I c, x ∈ lk) → (I c).map (updF lv u (1 + mxI ((I u).map lv))) = (I c).map lv := fun c h => List.map_congr_left fun x hx => updF_ne fun e => hu (e ▸ h x hx)
  by_cases e : c = u
  · subst e
    rw [updF_same, if_neg hne, same c hx]
  · have hc : c ∈ lk := by simpa [e] using hc
    rw [updF_ne e, h c hc, same c (hs c hc)]
/-- one user of a cell that is peeled -/
theorem user_fz {xc : XC} {d : Dn} {z0 z1 z2 z3 z9 z10 z12 : Option EV} {nx : Cel → List Cel} {I : Cel → List Cel} {W : Cel → Cel → Bool} {u h : Cel} (H : PH eh0 eh pu pf pe pk uk ul ua K lf En lk lv) (Q : Kh nx K I W lk lf) (V : LvP I lk lv) (hV : ∀ c ∈ lk, ∀ x ∈ I c, x ∈ lk) (hI : ∀ c ∈ K, (I c).Nodup ∧ ∀ x, x ∈ I c ↔ x ∈ nx c)
    (hu : u ∈ K) (hh : h ∈ I u) (hw : W u h = false) (hl : h ∈ lk) (hK : K.length ≤ 2000) (hIl : ∀ c ∈ K, (I c).length ≤ 2000) (hE : En.length ≤ 2000)
    (k0 : ∀ eh' , PH eh0 eh' pu pf pe pk uk ul ua K (updF lf u (lf u - 1)) En lk lv → Kh nx K I (putW W u h) lk (updF lf u (lf u - 1)) → ∀ z10, d.nx [z0, z1, z2, z3, some (.dn (celD (inE I) K)), some (.ref pu), some (.ref pf), some (.ref pe), some (.ref pk), z9, z10, some (cellE u), z12] eh')
    (k1 : ∀ eh' lv', u ∉ lk → PH eh0 eh' pu pf pe pk uk ul ua K (updF lf u (lf u - 1)) (En ++ [u]) (lk ++ [u]) lv' → LvP I (lk ++ [u]) lv' → (∀ x ∈ I u, x ∈ lk) → Kh nx K I (putW W u h) (lk ++ [u]) (updF lf u (lf u - 1)) → ∀ z10, d.nx [z0, z1, z2, z3, some (.dn (celD (inE I) K)), some (.ref pu), some (.ref pf), some (.ref pe), some (.ref pk), z9, z10, some (cellE u), z12] eh') :
    bd__law_lengths_8 xc d [z0, z1, z2, z3, some (.dn (celD (inE I) K)), some (.ref pu), some (.ref pf), some (.ref pe), some (.ref pk), z9, z10, some (cellE u), z12] eh := by
  obtain ⟨s1, s2⟩ := Q.step hI hu hh hw hl
  have lkl := nodup_leC Q.nd Q.sb
  unfold bd__law_lengths_8
  refine seq_i ?_
  refine dputN_i ?_
  walk_at "go"
  refine ⟨pf, _, _, .int (lf u), rfl, H.hf, keyN_cell u, cK_depth u, getN_c (f := nmE lf) hu, ?_⟩
  walk_at "go"
  refine ⟨pf, _, _, rfl, H.hf, keyN_cell u, cK_depth u, szT (by unfold celD; rw [List.length_map]; omega), ?_⟩
  have H1 := H.left (v := lf u - 1) hu
  walk_at "go"
  refine ⟨pf, _, _, .int (lf u - 1), rfl, H1.hf, keyN_cell u, cK_depth u, (getN_c (f := nmE (updF lf u (lf u - 1))) hu).trans (by unfold nmE; rw [updF_same]), ?_⟩
  walk_at "go"
  by_cases hz : lf u - 1 = 0
  · rw [decide_eq_true hz]
    obtain ⟨ul', inl, Q2⟩ := s2 hz
    have hne : I u ≠ [] := fun z => by rw [z] at hh; cases hh
    refine (show ∀ {p q : Prop}, p → bif true then p else q from fun h => h) ?_
    refine seq_i ?_
    refine dputN_i ?_
    walk_at "go"
    refine ⟨_, _, inE I u, rfl, keyN_cell u, cK_depth u, getN_c (f := inE I) hu, ?_⟩
    refine ⟨_, _, rfl, ?_⟩
    refine comp_map (c := cellE) (f := nmE lv) trivial (by simp; have := hIl u hu; omega) (fun x hx => asgx_i rfl fun q' hq' => ?_) ?_
    · walk_at "go"
      refine ⟨pk, _, _, .int (lv x), rfl, H1.hk, keyN_cell x, cK_depth x, getN_c (f := nmE lv) (inl x hx), ?_⟩
      exact hq'
    rw [List.nil_append, show (I u).map (nmE lv) = ((I u).map lv).map .int by rw [List.map_map]; rfl]
    walk_at "go"
    refine maxL_i (fun z => hne (by simpa using z)) ?_
    walk_at "go"
    refine ⟨pk, _, _, rfl, H1.hk, keyN_cell u, cK_depth u, szT (by unfold celD; rw [List.length_map]; omega), ?_⟩
    have H2 := H1.lens (u := u) (v := 1 + mxI ((I u).map lv)) ul'
    walk_at "go"
    refine ⟨isLst_c H2.he, ?_⟩
    walk_at "go"
    refine ⟨_, H2.he, szT (by rw [List.length_map]; omega), ?_⟩
    have e : En.map cellE ++ [cellE u] = (En ++ [u]).map cellE := by simp
    rw [e]
    exact k1 _ _ ul' (H2.ends (En ++ [u])) (V.add hV ul' inl hne) inl Q2 _
  · rw [decide_eq_false hz]
    exact k0 _ H1 (s1 hz) _
end

/-! ### the law's own search, walked: the whole peeling -/
structure Pl (nx : Cel → List Cel) (K : List Cel) (I : Cel → List Cel) (W : Cel → Cel → Bool) (lf : Cel → Int) (En lk : List Cel) (lv : Cel → Int) (ho : Option Cel) (n : Nat) : Prop where
  Q : Kh nx K I W lk lf
  V : LvP I lk lv
  en : ∀ x ∈ En, ∀ c ∈ K, x ∈ I c → W c x = false
  pp : ∀ x ∈ lk, ho = some x ∨ x ∈ En ∨ ∀ c ∈ K, x ∈ I c → W c x = true
  el : ∀ x ∈ En, x ∈ lk
  ed : En.Nodup
  hn : ∀ h, ho = some h → h ∈ lk ∧ h ∉ En
  ct : lk.length = En.length + n
section
variable {nx : Cel → List Cel} {K En lk : List Cel} {I : Cel → List Cel} {W : Cel → Cel → Bool} {lf lv : Cel → Int} {ho : Option Cel} {n : Nat}
theorem Kh.hV (Q : Kh nx K I W lk lf) : ∀ c ∈ lk, ∀ x ∈ I c, x ∈ lk := fun c hc x hx => Q.cs c (Q.sb c hc) x hx ((Q.iff c (Q.sb c hc)).mp hc x hx)
theorem Pl.pop {h : Cel} (P : Pl nx K I W lf (En ++ [h]) lk lv none n) : Pl nx K I W lf En lk lv (some h) (n + 1) := by
  have nd := List.nodup_append.mp P.ed
  refine ⟨P.Q, P.V, fun x hx => P.en x (by simp [hx]), fun x hx => ?_, fun x hx => P.el x (by simp [hx]), nd.1, fun h' e => ?_, by have := P.ct; simp at this; omega⟩
  · rcases P.pp x hx with e | e | e
    · cases e
    · rcases List.mem_append.mp e with e | e
      · exact .inr (.inl e)
      · rw [List.mem_singleton.mp e]; exact .inl rfl
    · exact .inr (.inr e)
  · cases e
    exact ⟨P.el h (by simp), fun z => nd.2.2 h z h (by simp) rfl⟩
theorem Pl.done {h : Cel} (P : Pl nx K I W lf En lk lv (some h) n) (hh : ∀ c ∈ K, h ∈ I c → W c h = true) : Pl nx K I W lf En lk lv none n :=
  ⟨P.Q, P.V, P.en, fun x hx => by
    rcases P.pp x hx with e | e | e
    · cases e; exact .inr (.inr hh)
    · exact .inr (.inl e)
    · exact .inr (.inr e), P.el, P.ed, fun h' e => (by cases e), P.ct⟩
theorem putW_mono {u h c x : Cel} (z : W c x = true) : putW W u h c x = true := by unfold putW; rw [z]; rfl
theorem putW_ne {u h c x : Cel} (e : c ≠ u ∨ x ≠ h) : putW W u h c x = W c x := by
  unfold putW
  rcases e with e | e
  · rw [decide_eq_false e, Bool.false_and, Bool.or_false]
  · rw [decide_eq_false e, Bool.and_false, Bool.or_false]
theorem Pl.go0 {u h : Cel} {lf' : Cel → Int} (P : Pl nx K I W lf En lk lv (some h) n) (Q : Kh nx K I (putW W u h) lk lf') : Pl nx K I (putW W u h) lf' En lk lv (some h) n := by
  obtain ⟨_, h2⟩ := P.hn h rfl
  refine ⟨Q, P.V, fun x hx c hc hi => ?_, fun x hx => ?_, P.el, P.ed, P.hn, P.ct⟩
  · rw [putW_ne (.inr fun e => h2 (by rw [← e]; exact hx))]; exact P.en x hx c hc hi
  · rcases P.pp x hx with e | e | e
    · exact .inl e
    · exact .inr (.inl e)
    · exact .inr (.inr fun c hc hi => putW_mono (e c hc hi))
theorem Pl.go1 {u h : Cel} {lf' lv' : Cel → Int} (P : Pl nx K I W lf En lk lv (some h) n) (hu : u ∉ lk) (V : LvP I (lk ++ [u]) lv') (Q : Kh nx K I (putW W u h) (lk ++ [u]) lf') : Pl nx K I (putW W u h) lf' (En ++ [u]) (lk ++ [u]) lv' (some h) n := by
  obtain ⟨h1, h2⟩ := P.hn h rfl
  have uh : u ≠ h := fun e => hu (e ▸ h1)
  refine ⟨Q, V, fun x hx c hc hi => ?_, fun x hx => ?_, fun x hx => ?_, ?_, fun h' e => ?_, by have := P.ct; simp; omega⟩
  · rcases List.mem_append.mp hx with hx | hx
    · rw [putW_ne (.inr fun e => h2 (by rw [← e]; exact hx))]; exact P.en x hx c hc hi
    · rw [List.mem_singleton.mp hx] at hi ⊢
      rw [putW_ne (.inr uh)]
      cases e : W c u with
      | false => rfl
      | true => exact absurd (P.Q.cs c hc u hi e) hu
  · rcases List.mem_append.mp hx with hx | hx
    · rcases P.pp x hx with e | e | e
      · exact .inl e
      · exact .inr (.inl (by simp [e]))
      · exact .inr (.inr fun c hc hi => putW_mono (e c hc hi))
    · exact .inr (.inl (by simp [List.mem_singleton.mp hx]))
  · rcases List.mem_append.mp hx with hx | hx
    · simp [P.el x hx]
    · simp [List.mem_singleton.mp hx]
  · rw [List.nodup_append]
    exact ⟨P.ed, by simp, fun a ha d hd => by rw [List.mem_singleton.mp hd]; exact fun e => hu (e ▸ P.el a ha)⟩
  · cases e
    exact ⟨by simp [h1], by simp [h2, uh.symm]⟩
variable {eh0 eh : Eh} {pu pf pe pk : Addr} {uk : List Cel} {ul : Cel → List Cel} {ua : Cel → Addr}
/-- the users of one cell -/
theorem users_fz {xc : XC} {d : Dn} {ok : Eh → Prop} {z0 z1 z2 z3 z9 z10 z11 z12 : Option EV} {h : Cel} {L : List Cel} (H : PH eh0 eh pu pf pe pk uk ul ua K lf En lk lv) (P : Pl nx K I W lf En lk lv (some h) n) (hI : ∀ c ∈ K, (I c).Nodup ∧ ∀ x, x ∈ I c ↔ x ∈ nx c)
    (hok : ∀ eh' lf' En' lk' lv', PH eh0 eh' pu pf pe pk uk ul ua K lf' En' lk' lv' → ok eh') (hLn : L.Nodup) (hL : ∀ u, u ∈ L ↔ u ∈ K ∧ h ∈ I u) (hw : ∀ u ∈ L, W u h = false) (hK : K.length ≤ 1600) (hIl : ∀ c ∈ K, (I c).length ≤ 2000)
    (k : ∀ eh' W' lf' En' lk' lv' z10 z11, PH eh0 eh' pu pf pe pk uk ul ua K lf' En' lk' lv' → Pl nx K I W' lf' En' lk' lv' none n → d.nx [z0, z1, z2, z3, some (.dn (celD (inE I) K)), some (.ref pu), some (.ref pf), some (.ref pe), some (.ref pk), z9, z10, z11, z12] eh') :
    forL (.nm 11) bd__law_lengths_8 ok xc d (L.map cellE) [z0, z1, z2, z3, some (.dn (celD (inE I) K)), some (.ref pu), some (.ref pf), some (.ref pe), some (.ref pk), z9, z10, z11, z12] eh := by
  refine for_inv (c := cellE) (fun L2 es eh' => ∃ pre W' lf' En' lk' lv' z10 z11, pre ++ L2 = L ∧ PH eh0 eh' pu pf pe pk uk ul ua K lf' En' lk' lv' ∧ Pl nx K I W' lf' En' lk' lv' (some h) n ∧ (∀ u ∈ L2, W' u h = false) ∧ (∀ u ∈ pre, W' u h = true) ∧ es = [z0, z1, z2, z3, some (.dn (celD (inE I) K)), some (.ref pu), some (.ref pf), some (.ref pe), some (.ref pk), z9, z10, z11, z12])
    ⟨[], W, lf, En, lk, lv, _, _, rfl, H, P, hw, by simp, rfl⟩ ?_ ?_
  · rintro u L2 es eh' ⟨pre, W', lf', En', lk', lv', z10, z11, eL, H', P', hf, ht, rfl⟩
    have huL : u ∈ L := by rw [← eL]; simp
    obtain ⟨uK, hI2⟩ := (hL u).mp huL
    have nd := hLn
    rw [← eL, List.nodup_append] at nd
    have nd2 := List.nodup_cons.mp nd.2.1
    have El : En'.length ≤ 1600 := by have := P'.ct; have := nodup_leC P'.Q.nd P'.Q.sb; omega
    have hf2 : ∀ x ∈ L2, putW W' u h x h = false := fun x hx => by
      rw [putW_ne (.inl fun e => nd2.1 (by rw [← e]; exact hx))]; exact hf x (by simp [hx])
    have ht2 : ∀ x ∈ pre ++ [u], putW W' u h x h = true := fun x hx => by
      rcases List.mem_append.mp hx with hx | hx
      · exact putW_mono (ht x hx)
      · rw [List.mem_singleton.mp hx]; unfold putW; simp
    refine ⟨hok _ _ _ _ _ H', asgx_i rfl fun d' hrt hnx _ _ => ?_⟩
    refine user_fz H' P'.Q P'.V P'.Q.hV hI uK hI2 (hf u (by simp)) (P'.hn h rfl).1 (by omega) hIl (by omega) (fun eh2 H2 Q2 z10 => ?_) (fun eh2 lv2 nl H2 V2 _ Q2 z10 => ?_)
    · exact hnx _ _ ⟨pre ++ [u], _, _, _, _, _, _, _, by rw [← eL]; simp, H2, P'.go0 Q2, hf2, ht2, rfl⟩
    · exact hnx _ _ ⟨pre ++ [u], _, _, _, _, _, _, _, by rw [← eL]; simp, H2, P'.go1 nl V2 Q2, hf2, ht2, rfl⟩
  · rintro es eh' ⟨pre, W', lf', En', lk', lv', z10, z11, eL, H', P', _, ht, rfl⟩
    rw [List.append_nil] at eL
    subst eL
    exact ⟨hok _ _ _ _ _ H', k _ _ _ _ _ _ _ _ H' (P'.done fun c hc hi => ht c ((hL c).mpr ⟨hc, hi⟩))⟩
theorem getN_i {ma mb mc : ME} {xc : XC} {es : Es} {q : KE} (h : ma xc es eh fun x eh1 => (∃ kvs, (∃ p, x = .ref p ∧ eh1 p = some (.dN kvs)) ∨ x = .dn kvs) ∧ mb xc es eh1 fun y eh2 => mc xc es eh2 fun z eh3 => ∃ kvs ks, ((∃ p, x = .ref p ∧ eh3 p = some (.dN kvs)) ∨ x = .dn kvs) ∧ keyN y = some (.tup ks) ∧ (NestedKey.tup ks).depth ≤ 8 ∧
  match getN kvs (.tup ks) with
  | some v => q v eh3
  | none => q z eh3) : mGetN ma mb mc xc es eh q := h
theorem wrefC {eh : Eh} {f : Addr} {xs : List EV} (h : eh f = some (.lst xs)) : walkE eh (.ref f) = some (xs, fun h => h f = some (.lst xs)) := by simp only [walkE, h]
/-- the ends, one after another -/
theorem peel_fz {xc : XC} {d : Dn} {z0 z1 z2 z3 z9 z10 z11 z12 : Option EV} (H : PH eh0 eh pu pf pe pk uk ul ua K lf En lk lv) (P : Pl nx K I W lf En lk lv none 0) (hI : ∀ c ∈ K, (I c).Nodup ∧ ∀ x, x ∈ I c ↔ x ∈ nx c)
    (U : Us (fun c x => c ∈ K ∧ x ∈ I c) uk ul) (hK : K.length ≤ 1600) (hIl : ∀ c ∈ K, (I c).length ≤ 2000)
    (k : ∀ eh' W' lf' lk' lv' n z9 z10 z11, PH eh0 eh' pu pf pe pk uk ul ua K lf' [] lk' lv' → Pl nx K I W' lf' [] lk' lv' none n → d.nx [z0, z1, z2, z3, some (.dn (celD (inE I) K)), some (.ref pu), some (.ref pf), some (.ref pe), some (.ref pk), z9, z10, z11, z12] eh') :
    sWhile (tVal (mOp (cEq true) (mVar 7) (mLst aNil))) bd__law_lengths_9 xc d [z0, z1, z2, z3, some (.dn (celD (inE I) K)), some (.ref pu), some (.ref pf), some (.ref pe), some (.ref pk), z9, z10, z11, z12] eh := by
  refine while_inv (fun t es eh' => ∃ W' lf' En' lk' lv' n z9 z10 z11, t + n = K.length ∧ PH eh0 eh' pu pf pe pk uk ul ua K lf' En' lk' lv' ∧ Pl nx K I W' lf' En' lk' lv' none n ∧ es = [z0, z1, z2, z3, some (.dn (celD (inE I) K)), some (.ref pu), some (.ref pf), some (.ref pe), some (.ref pk), z9, z10, z11, z12]) K.length
    ⟨W, lf, En, lk, lv, 0, _, _, _, rfl, H, P, rfl⟩ ?_
  rintro t es eh' ⟨W', lf', En', lk', lv', n, z9, z10, z11, ht, H', P', rfl⟩ qt hq
  walk_at "go"
  refine neC_i (fro_ref H'.he) ?_
  refine ⟨_, rfl, ?_⟩
  rcases List.eq_nil_or_concat En' with rfl | ⟨En2, h, rfl⟩
  · refine hq _ _ (fun z => nomatch z) fun _ => ?_
    exact k _ _ _ _ _ _ _ _ _ H' P'
  · rw [List.concat_eq_append] at H' P' ⊢
    rw [decide_eq_false (by simp)]
    refine hq _ _ (fun _ d' hrt hnx _ _ => ?_) fun z => nomatch z
    have P2 := P'.pop
    have nl : n + 1 ≤ K.length := by have := P2.ct; have := nodup_leC P2.Q.nd P2.Q.sb; omega
    have hcell : h ∈ K := P2.Q.sb h (P2.hn h rfl).1
    have he2 : eh' pe = some (.lst (En2.map cellE ++ [cellE h])) := by rw [H'.he]; simp
    unfold bd__law_lengths_9
    walk_at "go"
    refine ⟨isLst_c H'.he, ?_⟩
    walk_at "go"
    refine ⟨En2.map cellE, cellE h, he2, ?_⟩
    have H2 := H'.ends En2
    walk_at "go"
    refine getN_i ?_
    walk_at "go"
    refine ⟨⟨_, .inl ⟨pu, rfl, H2.hu⟩⟩, ?_⟩
    walk_at "go"
    refine ⟨_, _, .inl ⟨pu, rfl, H2.hu⟩, keyN_cell h, cK_depth h, ?_⟩
    have fin : ∀ (L : List Cel) (ok : Eh → Prop), (∀ eh2 lf2 En3 lk2 lv2, PH eh0 eh2 pu pf pe pk uk ul ua K lf2 En3 lk2 lv2 → ok eh2) → L.Nodup → (∀ u, u ∈ L ↔ u ∈ K ∧ h ∈ I u) →
        forL (.nm 11) bd__law_lengths_8 ok xc d' (L.map cellE) [z0, z1, z2, z3, some (.dn (celD (inE I) K)), some (.ref pu), some (.ref pf), some (.ref pe), some (.ref pk), some (cellE h), z10, z11, z12] (eupd eh' pe (some (.lst (En2.map cellE)))) := fun L ok hok hLn hL => by
      refine users_fz H2 P2 hI hok hLn hL (fun u hu => ?_) hK hIl fun eh2 W2 lf2 En3 lk2 lv2 z10 z11 H3 P3 => ?_
      · obtain ⟨u1, u2⟩ := (hL u).mp hu
        exact P'.en h (by simp) u u1 u2
      · exact hnx (t - 1) _ _ (by omega) ⟨W2, lf2, En3, lk2, lv2, n + 1, _, _, _, by omega, H3, P3, rfl⟩
    by_cases hx : h ∈ uk
    · have g : getN (celD (fun x => EV.ref (ua x)) uk) (cK h) = some (.ref (ua h)) := getN_c (f := fun x => EV.ref (ua x)) hx
      rw [show getN (celD (fun x => EV.ref (ua x)) uk) (NestedKey.tup [.text h.1, .tup (h.2.map .num)]) = some (.ref (ua h)) from g]
      dsimp only
      obtain ⟨m1, m2⟩ := U.m h hx
      refine ⟨_, _, wrefC (H2.us h hx), ?_⟩
      exact fin (ul h) _ (fun eh2 lf2 En3 lk2 lv2 H3 => H3.us h hx) m1 m2
    · have g : getN (celD (fun x => EV.ref (ua x)) uk) (cK h) = none := (getN_cell (f := fun x => EV.ref (ua x))).trans (if_neg hx)
      rw [show getN (celD (fun x => EV.ref (ua x)) uk) (NestedKey.tup [.text h.1, .tup (h.2.map .num)]) = none from g]
      dsimp only
      refine ⟨_, _, rfl, ?_⟩
      exact fin [] _ (fun _ _ _ _ _ _ => trivial) (by simp) fun u => ⟨fun z => (by cases z), fun z => absurd ((U.k h).mpr ⟨u, z⟩) hx⟩
end

/-! ### the law's own search: its contract -/
theorem dispN_i {mk mv : ME} {xc : XC} {es : Es} {eh : Eh} {q : KE} (h : ∀ p, eh p = none → mk xc es (eupd eh p (some (.dN []))) fun y eh1 => mv xc es eh1 fun z eh2 => ∃ ks, eh2 p = some (.dN []) ∧ keyN y = some (.tup ks) ∧ (NestedKey.tup ks).depth ≤ 8 ∧ q (.ref p) (eupd eh2 p (some (.dN [(.tup ks, z)])))) : mDispN mk mv xc es eh q := h
theorem dnewN_i {xc : XC} {es : Es} {eh : Eh} {q : KE} (h : ∀ p, eh p = none → q (.ref p) (eupd eh p (some (.dN [])))) : mDNewN xc es eh q := h
theorem fzS_i {i n : Nat} {ms : MS} {xc : XC} {d : Dn} {es : Es} {eh : Eh} (h : ∃ p, es[i]? = some (some (.ref p)) ∧ ms xc d (es.set i (some (fz (fun b => b == p) eh n (.ref p)))) (drE (fun b => b == p) eh)) : sFzS i n ms xc d es eh := h
theorem fz_dn {S : Addr → Bool} {eh : Eh} {k : Nat} {a : Addr} {kvs : List (NestedKey × EV)} (h : S a = true) (e : eh a = some (.dN kvs)) : fz S eh (k + 1) (.ref a) = .dn (kvs.map fun p => (p.1, fz S eh k p.2)) := by simp only [fz, h, e, if_true]
theorem okB_cells (L : List Cel) : okB 3 (.lst (L.map cellE)) = true := okB_map fun c _ => okB_of (okD_cell c)
theorem keysN_i {m : ME} {xc : XC} {es : Es} {eh : Eh} {qi : List EV → (Eh → Prop) → Eh → Prop} (h : m xc es eh fun x eh1 => ∃ kvs, x = .dn kvs ∧ qi (kvs.map fun p => evK p.1) (fun _ => True) eh1) : iKeysN m xc es eh qi := h
theorem keys_cel (f : Cel → EV) (K : List Cel) : ((celD f K).map fun p => evK p.1) = K.map cellE := by
  unfold celD
  rw [List.map_map]
  exact List.map_congr_left fun c _ => evK_cell c
section
variable {dims md : Int} {rows : List Row} {b : Cel}
/-- all cells reached, and their lengths -/
structure Len (rs : List Row) (b : Cel) (lk : List Cel) (lv : Cel → Int) : Prop where
  nd : lk.Nodup
  hb : b ∈ lk
  rc : ∀ c ∈ lk, c = b ∨ Pth (nextC rs) c b
  cl : ∀ c ∈ lk, ∀ x ∈ nextC rs c, x ∈ lk
  rd : Rdy (nextC rs) b
  lv : ∀ c ∈ lk, ∃ I : List Cel, I.Nodup ∧ (∀ x, x ∈ I ↔ x ∈ nextC rs c) ∧ lv c = if I = [] then 0 else 1 + mxI (I.map lv)
  ln : lk.length ≤ 1500
theorem lengths_ez {xc : XC} {eh : Eh} {q : KE} (fit : SysFit dims md rows) (hb : cellOk dims (sortR rows) b = true)
    (k0 : ¬ Rdy (nextC (sortR rows)) b → ∀ eh', Kp eh eh' → q .non eh') (k2 : Man (nextC (sortR rows)) b → ∀ p eh', eh p = none → eh' p = some (.dN []) → Kp eh eh' → q (.ref p) eh')
    (k1 : ∀ p eh' lk lv, Len (sortR rows) b lk lv → eh p = none → eh' p = some (.dN (celD (nmE lv) lk)) → Kp eh eh' → q (.ref p) eh') :
    fn__law_lengths xc ([EV.lst (rows.map rowE), cellE b] ++ []) eh q := by
  have R := fit.toR
  unfold fn__law_lengths ms__law_lengths
  walk_at "go"
  refine dispN_i ?_
  intro pp hp
  walk_at "go"
  refine ⟨_, eupd_same, keyN_cell b, cK_depth b, ?_⟩
  rw [eupd_eupd]
  walk_at "go"
  intro pl hl
  walk_at "go"
  refine dnewN_i ?_
  intro pi hi
  walk_at "go"
  refine dnewN_i ?_
  intro pu hu
  walk_at "go"
  have lp : pl ≠ pp := fun z => by rw [z, eupd_same] at hl; cases hl
  have il : pi ≠ pl := fun z => by rw [z, eupd_same] at hi; cases hi
  have ui : pu ≠ pi := fun z => by rw [z, eupd_same] at hu; cases hu
  rw [eupd_ne lp] at hl
  rw [eupd_ne il] at hi
  have ip : pi ≠ pp := fun z => by rw [z, eupd_same] at hi; cases hi
  rw [eupd_ne ip] at hi
  rw [eupd_ne ui] at hu
  have ul : pu ≠ pl := fun z => by rw [z, eupd_same] at hu; cases hu
  rw [eupd_ne ul] at hu
  have up : pu ≠ pp := fun z => by rw [z, eupd_same] at hu; cases hu
  rw [eupd_ne up] at hu
  have A0 : Al (sortR rows) b eh (eupd (eupd (eupd (eupd eh pp (some (.dN [(cK b, .non)]))) pl (some (.lst [cellE b]))) pi (some (.dN []))) pu (some (.dN []))) pp pl pi pu [b] (fun _ => none) [b] [] (fun _ => []) [] (fun _ => []) (fun _ => pp) :=
    ⟨.start _ _ _, ⟨by rw [eupd_ne up.symm, eupd_ne ip.symm, eupd_ne lp.symm, eupd_same]; rfl, by rw [eupd_ne ul.symm, eupd_ne il.symm, eupd_same]; rfl, by rw [eupd_ne ui.symm, eupd_same]; rfl, by rw [eupd_same]; rfl, by simp, ip, up, ui, by simp, by simp, hp, hl, hi, hu, by simp, (((Kp.refl.set hp).set hl).set hi).set hu⟩, Us.start.congr fun c x => by simp, by simp⟩
  refine line_fz fit hb A0 k0 k2 fun eh1 par pr I uk ulf ua z9 z10 z12 A => ?_
  dsimp only
  have Kn := A.B.nd
  have Kl := A.ln
  have hI : ∀ c ∈ par, (I c).Nodup ∧ (∀ x, x ∈ I c ↔ x ∈ nextC (sortR rows) c) ∧ ∀ x ∈ I c, x ∈ par := A.B.li
  have hIl : ∀ c ∈ par, (I c).length ≤ 2000 := fun c hc => by
    obtain ⟨h1, h2, _⟩ := hI c hc
    have := nodup_leC h1 fun x hx => (h2 x).mp hx
    have := nextC_len R (par_ok R A.B hb c hc)
    omega
  refine fzS_i ?_
  refine ⟨pi, rfl, ?_⟩
  have ef : fz (fun b => b == pi) eh1 9 (.ref pi) = .dn (celD (inE I) par) := by
    rw [fz_dn (k := 8) (by simp) A.H.hi]
    unfold celD
    rw [List.map_map]
    congr 1
    refine List.map_congr_left fun c _ => ?_
    show (cK c, fz _ eh1 8 (.lst ((I c).map cellE))) = (cK c, inE I c)
    rw [fz_okB (okB_cells (I c))]
  rw [ef]
  have hd : ∀ {a : Addr}, a ≠ pi → drE (fun b => b == pi) eh1 a = eh1 a := fun {a} h => by
    show (if (a == pi) = true then none else eh1 a) = eh1 a
    rw [if_neg (by simpa using h)]
  have hpi : drE (fun b => b == pi) eh1 pi = none := by unfold drE; simp
  have kp1 : Kp eh (drE (fun b => b == pi) eh1) := fun c hc => by
    have : c ≠ pi := fun z => hc (by rw [z]; exact A.H.zi)
    rw [hd this]; exact A.H.kp c hc
  have hu1 : drE (fun b => b == pi) eh1 pu = some (.dN (celD (fun x => .ref (ua x)) uk)) := by rw [hd A.H.nui]; exact A.H.hu
  have us1 : ∀ x ∈ uk, drE (fun b => b == pi) eh1 (ua x) = some (.lst ((ulf x).map cellE)) := fun x hx => by rw [hd (A.H.au hx).2.1]; exact A.H.us x hx
  generalize drE (fun b => b == pi) eh1 = eh2 at hd hpi kp1 hu1 us1 ⊢
  walk_at "go"
  refine keysN_i ?_
  walk_at "go"
  refine ⟨_, rfl, ?_⟩
  rw [keys_cel]
  refine comp_map (c := cellE) (f := fun c => .tup [cellE c, .int ((I c).length : Nat)]) trivial (by simp only [List.length_nil]; omega) (fun c hc => asgx_i rfl fun q' hq' => ?_) ?_
  · unfold ce__law_lengths_4
    walk_at "go"
    refine ⟨_, _, inE I c, rfl, keyN_cell c, cK_depth c, getN_c (f := inE I) hc, ?_⟩
    walk_at "go"
    rw [List.length_map]
    exact hq'
  rw [List.nil_append]
  walk_at "go"
  refine dictPN_i (f := fun c => .int ((I c).length : Nat)) Kn rfl fun pf hf => ?_
  have fu : pf ≠ pu := fun z => by rw [z, hu1] at hf; cases hf
  have fua : ∀ x ∈ uk, ua x ≠ pf := fun x hx z => by have := us1 x hx; rw [z, hf] at this; cases this
  have f0 := kp_none kp1 hf
  walk_at "go"
  refine keysN_i ?_
  walk_at "go"
  refine ⟨_, rfl, ?_⟩
  rw [keys_cel]
  refine comp_filter (c := cellE) (f := cellE) (p := fun c => decide (I c = [])) trivial (by simp only [List.length_nil]; omega) (fun c hc => asgx_i rfl ⟨fun qt hq => ?_, fun _ q' hq' => ?_⟩) ?_
  · walk_at "go"
    refine ⟨pf, _, _, .int ((I c).length : Nat), rfl, eupd_same, keyN_cell c, cK_depth c, getN_c (f := fun c => .int ((I c).length : Nat)) hc, ?_⟩
    walk_at "go"
    have : decide (((I c).length : Int) = 0) = decide (I c = []) := by
      rw [Bool.eq_iff_iff, decide_eq_true_eq, decide_eq_true_eq]
      constructor
      · intro z; exact List.eq_nil_of_length_eq_zero (by omega)
      · intro z; rw [z]; rfl
    rw [this]
    exact hq
  · walk_at "go"
    exact hq'
  rw [List.nil_append]
  refine ⟨_, rfl, fun pe he => ?_⟩
  have eu0 : pe ≠ pu := fun z => by rw [z, eupd_ne fu.symm, hu1] at he; cases he
  have ef0 : pe ≠ pf := fun z => by rw [z, eupd_same] at he; cases he
  have eua : ∀ x ∈ uk, ua x ≠ pe := fun x hx z => by
    rw [← z, eupd_ne (fua x hx), us1 x hx] at he; cases he
  rw [eupd_ne ef0] at he
  have e0 := kp_none kp1 he
  dsimp only
  walk_at "go"
  refine ⟨_, _, wrefC eupd_same, ?_⟩
  have K0n : (par.filter fun c => decide (I c = [])).Nodup := Kn.filter _
  have K0l : (par.filter fun c => decide (I c = [])).length ≤ 1500 := Nat.le_trans (List.length_filter_le _ _) Kl
  refine comp_map (c := cellE) (f := fun c => .tup [cellE c, .int 0]) (L := par.filter fun c => decide (I c = [])) eupd_same (by rw [List.length_nil, Nat.zero_add]; exact Nat.le_trans K0l (by decide)) (fun c hc => asgx_i rfl fun q' hq' => ?_) ?_
  · unfold ce__law_lengths_6
    walk_at "go"
    exact hq'
  rw [List.nil_append]
  walk_at "go"
  refine dictPN_i (f := fun _ => .int 0) K0n rfl fun pk hk => ?_
  have kE : pk ≠ pe := fun z => by rw [z, eupd_same] at hk; cases hk
  rw [eupd_ne kE] at hk
  have kF : pk ≠ pf := fun z => by rw [z, eupd_same] at hk; cases hk
  rw [eupd_ne kF] at hk
  have kU : pk ≠ pu := fun z => by rw [z, hu1] at hk; cases hk
  have kua : ∀ x ∈ uk, ua x ≠ pk := fun x hx z => by have := us1 x hx; rw [z, hk] at this; cases this
  have k00 := kp_none kp1 hk
  have P0 : PH eh (eupd (eupd (eupd eh2 pf (some (.dN (celD (fun c => .int ((I c).length : Nat)) par)))) pe (some (.lst ((par.filter fun c => decide (I c = [])).map cellE)))) pk (some (.dN (celD (fun _ => .int 0) (par.filter fun c => decide (I c = [])))))) pu pf pe pk uk ulf ua par (fun c => ((I c).length : Nat)) (par.filter fun c => decide (I c = [])) (par.filter fun c => decide (I c = [])) (fun _ => 0) :=
    ⟨by rw [eupd_ne kU.symm, eupd_ne eu0.symm, eupd_ne fu.symm]; exact hu1, fun x hx => by rw [eupd_ne (kua x hx), eupd_ne (eua x hx), eupd_ne (fua x hx)]; exact us1 x hx, by rw [eupd_ne kF.symm, eupd_ne ef0.symm, eupd_same], by rw [eupd_ne kE.symm, eupd_same], eupd_same, fu, kU, kF, eua, f0, e0, k00, ((kp1.set f0).set e0).set k00⟩
  have mem0 : ∀ c, c ∈ par.filter (fun c => decide (I c = [])) ↔ c ∈ par ∧ I c = [] := fun c => by rw [List.mem_filter, decide_eq_true_eq]
  have Q0 : Kh (nextC (sortR rows)) par I (fun _ _ => false) (par.filter fun c => decide (I c = [])) (fun c => ((I c).length : Nat)) := by
    refine ⟨K0n, fun c hc => ((mem0 c).mp hc).1, fun c hc => ?_, fun c hc => ?_, fun c hc x hx z => (by cases z), fun c hc => ?_⟩
    · show ((I c).length : Int) = (((I c).filter fun _ => true).length : Nat)
      rw [List.filter_eq_self.mpr fun _ _ => rfl]
    · rw [mem0 c]
      constructor
      · intro z x hx
        rw [z.2] at hx; cases hx
      · intro z
        refine ⟨hc, ?_⟩
        cases e : I c with
        | nil => rfl
        | cons x r => have := z x (by rw [e]; simp); cases this
    · obtain ⟨h1, h2⟩ := (mem0 c).mp hc
      exact Acc.intro c fun x hx => by
        have := ((hI c h1).2.1 x).mpr hx
        rw [h2] at this; cases this
  have L0 : Pl (nextC (sortR rows)) par I (fun _ _ => false) (fun c => ((I c).length : Nat)) (par.filter fun c => decide (I c = [])) (par.filter fun c => decide (I c = [])) (fun _ => 0) none 0 :=
    ⟨Q0, fun c hc => by rw [if_pos ((mem0 c).mp hc).2], fun _ _ _ _ _ => rfl, fun x hx => .inr (.inl hx), fun _ h => h, K0n, fun h e => (by cases e), rfl⟩
  walk_at "go"
  refine peel_fz P0 L0 (fun c hc => ⟨(hI c hc).1, (hI c hc).2.1⟩) A.U (by omega) hIl fun eh3 W lf lk lv n z9 z10 z11 H3 P3 => ?_
  obtain ⟨f1, f2⟩ := P3.Q.fin hI Kn (fun c hc => A.B.reach' hc) A.B.hb fun x hx c hc hi => by
    rcases P3.pp x hx with e | e | e
    · cases e
    · cases e
    · exact e c hc hi
  dsimp only
  walk_at "go"
  refine ⟨_, _, rfl, .inl ⟨pk, rfl, H3.hk⟩, ?_⟩
  walk_at "go"
  refine ⟨_, _, rfl, .inr rfl, ?_⟩
  rw [show (celD (nmE lv) lk).length = lk.length by unfold celD; rw [List.length_map], show (celD (inE I) par).length = par.length by unfold celD; rw [List.length_map]]
  walk_at "go"
  by_cases hr : Rdy (nextC (sortR rows)) b
  · rw [decide_eq_true (show ((lk.length : Nat) : Int) = (par.length : Nat) by rw [f1.mpr hr])]
    have all := f2 hr
    have iffm : ∀ c, c ∈ lk ↔ c ∈ par := fun c => ⟨P3.Q.sb c, all c⟩
    refine k1 pk _ lk lv ⟨P3.Q.nd, (iffm b).mpr A.B.hb, fun c hc => A.B.reach' ((iffm c).mp hc), fun c hc x hx => ?_, hr, fun c hc => ?_, Nat.le_trans (nodup_leC P3.Q.nd fun x hx => P3.Q.sb x hx) Kl⟩ H3.zk H3.hk H3.kp
    · have h := hI c ((iffm c).mp hc)
      exact (iffm x).mpr (h.2.2 x ((h.2.1 x).mpr hx))
    · have h := hI c ((iffm c).mp hc)
      exact ⟨I c, h.1, h.2.1, P3.V c hc⟩
  · rw [decide_eq_false (fun z => hr (f1.mp (by omega)))]
    exact k0 hr _ H3.kp
theorem lengths_fz {S : Addr → Bool} {xc : XC} {eh : Eh} {q : KE} (hS : S = nw eh) (fit : SysFit dims md rows) (hb : cellOk dims (sortR rows) b = true)
    (k0 : ¬ Rdy (nextC (sortR rows)) b → q .non eh) (k2 : Man (nextC (sortR rows)) b → q (.dn []) eh) (k1 : ∀ lk lv, Len (sortR rows) b lk lv → q (.dn (celD (nmE lv) lk)) eh) :
    ([EV.lst (rows.map rowE), cellE b] ++ []).length = 2 ∧ FZ S fn__law_lengths xc ([EV.lst (rows.map rowE), cellE b] ++ []) eh q := by
  refine ⟨rfl, ?_⟩
  subst hS
  refine lengths_ez fit hb (fun hn eh' kp => ?_) (fun hm p eh' hp hd kp => ?_) fun p eh' lk lv L hp hd kp => ?_
  · exact fin_data (n := 0) kp rfl (k0 hn)
  · show q (fz (nw eh) eh' 9 (.ref p)) (drE (nw eh) eh')
    rw [fz_dn (k := 8) (by simp [nw, hp]) hd, kp.dr]
    exact k2 hm
  · show q (fz (nw eh) eh' 9 (.ref p)) (drE (nw eh) eh')
    rw [fz_dn (k := 8) (by simp [nw, hp]) hd, kp.dr]
    have : (celD (nmE lv) lk).map (fun p => (p.1, fz (nw eh) eh' 8 p.2)) = celD (nmE lv) lk := by
      unfold celD
      rw [List.map_map]
      exact List.map_congr_left fun c _ => rfl
    rw [this]
    exact k1 lk lv L
end

/-! ### points of small systems drawn (rng) -/
theorem bd15 (dims : Int) : 12 * bdS dims + 30 ≤ sizeLine := by unfold bdS; split <;> decide
theorem point_fz {S : Addr → Bool} {xc : XC} {a : Addr} {s : Int × Int × Int} {b dims : Int} {eh : Eh} {q : KE} (hS : S = nw eh) (ha : eh a = some (rgO s)) (hs : RgOk b s) (hb : b + 100 ≤ 800000000) (hd : dims = 1 ∨ dims = 2)
    (k : ∀ (v : List Int) (s' : Int × Int × Int), v.length = dims.toNat → (∀ n ∈ v, 0 ≤ n ∧ n ≤ if dims = 1 then 100 else 6) → RgOk (b + 10) s' → q (.tup (v.map .int)) (eupd eh a (some (rgO s')))) : ([EV.ref a, .int dims] ++ []).length = 2 ∧ FZ S fn__law_point xc ([EV.ref a, .int dims] ++ []) eh q := by
  refine ⟨rfl, ?_⟩
  subst hS
  have ha0 : eh a ≠ none := by rw [ha]; simp
  obtain ⟨L, hL, hmost⟩ : ∃ L : List EV, atI [EV.lst [.int 3, .int 31, .int 101], .lst [.int 3, .int 7, .int 7]] (dims - 1) = some (.lst L) ∧ ∀ t : Int, 0 ≤ t → t < 3 → ∃ most : Int, atI L t = some (.int most) ∧ 1 ≤ most ∧ most ≤ (if dims = 1 then 100 else 6) + 1 := by
    rcases hd with rfl | rfl
    · refine ⟨_, rfl, fun t t0 t1 => ?_⟩
      have : t = 0 ∨ t = 1 ∨ t = 2 := by omega
      rcases this with rfl | rfl | rfl
      · exact ⟨3, rfl, by decide⟩
      · exact ⟨31, rfl, by decide⟩
      · exact ⟨101, rfl, by decide⟩
    · refine ⟨_, rfl, fun t t0 t1 => ?_⟩
      have : t = 0 ∨ t = 1 ∨ t = 2 := by omega
      rcases this with rfl | rfl | rfl
      · exact ⟨3, rfl, by decide⟩
      · exact ⟨7, rfl, by decide⟩
      · exact ⟨7, rfl, by decide⟩
  unfold FZ fn__law_point ms__law_point
  walk_at "go"
  refine ix_i (xs := [EV.lst [.int 3, .int 31, .int 101], .lst [.int 3, .int 7, .int 7]]) (z := .lst L) rfl hL ?_
  walk_at "go"
  refine draw_fz rfl ha hs (by omega) (by decide) (by decide) fun t s1 t0 t1 hs1 => ?_
  obtain ⟨most, hm, m1, m2⟩ := hmost t t0 t1
  have m3 : most ≤ 101 := by split at m2 <;> omega
  refine ix_i (xs := L) (z := .int most) rfl hm ?_
  walk_at "go"
  refine ⟨_, rfl, by omega, ?_⟩
  refine comp_inv (c := fun i : Nat => EV.int (i : Int)) (fun acc L eh' => ∃ (v : List Int) (s' : Int × Int × Int), acc = v.map .int ∧ v.length + L.length = dims.toNat ∧ (∀ n ∈ v, 0 ≤ n ∧ n ≤ if dims = 1 then 100 else 6) ∧ eh' = eupd eh a (some (rgO s')) ∧ RgOk (b + 1 + v.length) s') ⟨[], s1, rfl, by simp, by simp, rfl, hs1.mono (by simp)⟩ (by simp <;> omega) ?_ ?_
  · rintro acc i L eh' ⟨v, s', rfl, hl2, hv, rfl, hs'⟩
    simp only [List.length_cons] at hl2
    refine ⟨trivial, _, rfl, fun q' hq => ?_⟩
    unfold ce__law_point_1
    walk_at "go"
    refine draw_fz rfl eupd_same hs' (by omega) (by omega) (by omega) fun u s2 u0 u1 hs2 => ?_
    rw [eupd_eupd]
    refine hq _ _ ⟨v ++ [u], s2, by simp, by simp; omega, fun y hy => ?_, rfl, hs2.mono (by simp; omega)⟩
    rcases List.mem_append.mp hy with hy | hy
    · exact hv y hy
    · rw [List.mem_singleton.mp hy]; omega
  · rintro acc eh' ⟨v, s2, rfl, hl2, hv, rfl, hs2⟩
    simp only [List.length_nil, Nat.add_zero] at hl2
    refine ⟨trivial, ?_⟩
    walk_at "go"
    exact fin_rg ha0 (n := 2) (okB_of (okD_ints v)) (k v s2 hl2 hv (hs2.mono (by omega)))

/-! ### _law_ring: tables read round about (rng) -/
def ixW : List Str → Str → Nat
  | [], _ => 0
  | v :: r, w => if v = w then 0 else ixW r w + 1
theorem ixW_at : ∀ {ws : List Str} {i : Nat} {w : Str}, ws.Nodup → ws[i]? = some w → ixW ws w = i
  | [], i, w, _, h => by simp at h
  | v :: r, 0, w, _, h => by
    simp at h
    simp [ixW, h]
  | v :: r, i + 1, w, nd, h => by
    rw [List.nodup_cons] at nd
    have h : r[i]? = some w := by simpa using h
    have : v ≠ w := fun z => nd.1 (z ▸ List.mem_of_getElem? h)
    rw [ixW, if_neg this, ixW_at nd.2 h]
theorem ixW_le : ∀ (ws : List Str) (w : Str), ixW ws w ≤ ws.length
  | [], _ => Nat.le_refl _
  | v :: r, w => by
    rw [ixW]
    split
    · exact Nat.zero_le _
    · have := ixW_le r w
      rw [List.length_cons]; omega
/-- a read of the ring -/
structure RkX (ws : List Str) (w : Str) (x : Rd) : Prop where
  t : x.t ∈ ws
  f : x.f ≠ 0
  v : ∃ s : Int, x.v = [s] ∧ 0 ≤ s ∧ s ≤ 5 ∧ (s = 0 → ixW ws x.t < ixW ws w)
structure HpQ (eh0 : Eh) (a p : Addr) (s : Int × Int × Int) (eh : Eh) (L : List RowS) : Prop where
  ra : eh a = some (rgO s)
  rp : eh p = some (.lst (L.map rowS))
  at_ : ∀ t ∈ L, eh t.p = some (.lst (t.r.rs.map rdE))
  nd : (L.map (·.p)).Nodup
  new : ∀ t ∈ L, eh0 t.p = none ∧ t.p ≠ a ∧ t.p ≠ p
  p0 : eh0 p = none
  a0 : eh0 a ≠ none
  kp : ∀ c, eh0 c ≠ none → c ≠ a → eh c = eh0 c
theorem HpQ.pa {eh0 : Eh} {a p : Addr} {s : Int × Int × Int} {eh : Eh} {L : List RowS} (h : HpQ eh0 a p s eh L) : p ≠ a := fun z => h.a0 (z ▸ h.p0)
theorem HpQ.draw {eh0 : Eh} {a p : Addr} {s s' : Int × Int × Int} {eh : Eh} {L : List RowS} (h : HpQ eh0 a p s eh L) : HpQ eh0 a p s' (eupd eh a (some (rgO s'))) L :=
  ⟨eupd_same, by rw [eupd_ne h.pa]; exact h.rp, fun t ht => by rw [eupd_ne (h.new t ht).2.1]; exact h.at_ t ht, h.nd, h.new, h.p0, h.a0, fun c hc hca => by rw [eupd_ne hca]; exact h.kp c hc hca⟩
theorem HpQ.push {eh0 : Eh} {a p l : Addr} {s : Int × Int × Int} {eh : Eh} {L : List RowS} {w : Str} {n : Int} {rs : List Rd} (h : HpQ eh0 a p s eh L) (hl : eh l = none) : HpQ eh0 a p s (eupd (eupd eh l (some (.lst (rs.map rdE)))) p (some (.lst (L.map rowS ++ [rowS ⟨⟨w, n, rs⟩, l⟩])))) (L ++ [⟨⟨w, n, rs⟩, l⟩]) := by
  have lp : l ≠ p := fun z => by rw [z, h.rp] at hl; cases hl
  have la : l ≠ a := fun z => by rw [z, h.ra] at hl; cases hl
  have l0 : eh0 l = none := by
    cases e : eh0 l with
    | none => rfl
    | some o => have := h.kp l (by rw [e]; simp) la; rw [hl, e] at this; cases this
  have lt : ∀ t ∈ L, t.p ≠ l := fun t ht z => by have := h.at_ t ht; rw [z, hl] at this; cases this
  refine ⟨by rw [eupd_ne h.pa.symm, eupd_ne la.symm]; exact h.ra, by rw [eupd_same, List.map_append]; rfl, fun t ht => ?_, ?_, fun t ht => ?_, h.p0, h.a0, fun c hc hca => by rw [eupd_ne (show c ≠ p from fun z => hc (by rw [z]; exact h.p0)), eupd_ne (show c ≠ l from fun z => hc (by rw [z]; exact l0))]; exact h.kp c hc hca⟩
  · rcases List.mem_append.mp ht with ht | ht
    · rw [eupd_ne (h.new t ht).2.2, eupd_ne (lt t ht)]; exact h.at_ t ht
    · rw [List.mem_singleton.mp ht, eupd_ne lp, eupd_same]
  · rw [List.map_append, List.nodup_append]
    refine ⟨h.nd, by simp, fun x hx y hy z => ?_⟩
    obtain ⟨t, ht, rfl⟩ := List.mem_map.mp hx
    obtain rfl : y = l := by simpa using hy
    exact lt t ht z
  · rcases List.mem_append.mp ht with ht | ht
    · exact h.new t ht
    · rw [List.mem_singleton.mp ht]; exact ⟨l0, la, lp⟩
theorem intBl_i {b : Bool} {eh : Eh} {q : KE} (h : q (.int (if b = true then 1 else 0)) eh) : bInt [.bl b] eh q := h
section
variable {xc : XC} {d : Dn} {a p : Addr} {eh0 : Eh} {ws : List Str} {stp : Int}
theorem ring1_loop (nd : ws.Nodup) (hwl : ws.length ≤ 90) (h1 : 1 ≤ stp) (h3 : stp ≤ 3) : ∀ (W : List Str) (gf : Nat → Nat) (g : Nat) (L : List RowS) (s : Int × Int × Int) (b : Int) (eh : Eh) (z4 z5 z6 z7 z8 z9 : Option EV), (∀ i, gf i = g + i) → g + W.length = ws.length → ws.drop g = W → HpQ eh0 a p s eh L → RgOk b s → b + 2 * W.length ≤ 900000000 →
    L.map (·.r.w) = ws.take g → (∀ t ∈ L, t.r.rs.length = 1 ∧ ∀ x ∈ t.r.rs, RkX ws t.r.w x) →
    (∀ (L' : List RowS) (s' : Int × Int × Int) (eh' : Eh) (z4 z5 z6 z7 z8 z9 : Option EV), HpQ eh0 a p s' eh' L' → RgOk (b + 2 * W.length) s' → L'.map (·.r.w) = ws → (∀ t ∈ L', t.r.rs.length = 1 ∧ ∀ x ∈ t.r.rs, RkX ws t.r.w x) →
      d.nx [some (.ref a), some (.lst (ws.map .str)), some (.int stp), some (.ref p), z4, z5, z6, z7, z8, z9] eh') →
    forL (.tp [.nm 4, .nm 5]) bd__law_ring_1 (fun _ => True) xc d ((W.map EV.str).mapIdx fun i x => .tup [.int ((gf i : Nat) : Int), x]) [some (.ref a), some (.lst (ws.map .str)), some (.int stp), some (.ref p), z4, z5, z6, z7, z8, z9] eh
  | [], gf, g, L, s, b, eh, z4, z5, z6, z7, z8, z9, hgf, hg, _, H, hs, _, hw, hx, k => forL_nil trivial (k L s eh z4 z5 z6 z7 z8 z9 H (hs.mono (by simp)) (by rw [hw, List.take_of_length_le (by simp at hg; omega)]) hx)
  | w :: W, gf, g, L, s, b, eh, z4, z5, z6, z7, z8, z9, hgf, hg, hd, H, hs, hb, hw, hx, k => by
    simp only [List.length_cons] at hg hb k
    rw [List.map_cons, List.mapIdx_cons, hgf 0]
    refine forL_cons trivial rfl ?_
    have hgw : ws[g]? = some w := by
      have := congrArg (fun l => l[0]?) hd
      simpa [List.getElem?_drop] using this
    have hdt : ws.drop (g + 1) = W := by rw [← List.tail_drop, hd]; rfl
    -- the table read
    obtain ⟨t, ht, htm, htx⟩ : ∃ t : Str, atI (ws.map EV.str) (((g + 0 : Nat) : Int) - 1) = some (.str t) ∧ t ∈ ws ∧ (g ≠ 0 → ixW ws t < ixW ws w) := by
      by_cases h0 : g = 0
      · subst h0
        have hlast : ws[ws.length - 1]? = some ws[ws.length - 1] := List.getElem?_eq_getElem (by omega)
        refine ⟨ws[ws.length - 1], ?_, List.getElem_mem _, fun z => absurd rfl z⟩
        unfold atI ixN
        rw [if_neg (by omega), List.length_map, if_pos (by omega)]
        simp only [Option.bind_some]
        rw [show ((((0 + 0 : Nat) : Int) - 1) + (ws.length : Nat)).toNat = ws.length - 1 by omega, List.getElem?_map, hlast]
        rfl
      · have hp : ws[g - 1]? = some ws[g - 1] := List.getElem?_eq_getElem (by omega)
        refine ⟨ws[g - 1], ?_, List.getElem_mem _, fun _ => ?_⟩
        · unfold atI ixN
          rw [if_pos (by omega), List.length_map, if_pos (by omega)]
          simp only [Option.bind_some]
          rw [show (((g + 0 : Nat) : Int) - 1).toNat = g - 1 by omega, List.getElem?_map, hp]
          rfl
        · rw [ixW_at nd hp, ixW_at nd hgw]; omega
    unfold bd__law_ring_1
    walk_at "go"
    refine intBl_i ?_
    refine mul_i (i := stp) (.inl (.inr (by split <;> omega))) ?_
    have hv : ∃ v : Int, stp * (if decide (((g + 0 : Nat) : Int) = 0) = true then 1 else 0) = v ∧ 0 ≤ v ∧ v ≤ 5 ∧ (v = 0 → ixW ws t < ixW ws w) := by
      by_cases h0 : g = 0
      · subst h0
        exact ⟨stp, by simp, by omega, by omega, fun z => by omega⟩
      · refine ⟨0, ?_, by decide, by decide, fun _ => htx h0⟩
        rw [decide_eq_false (by omega)]; simp
    obtain ⟨v, ev, v0, v5, vx⟩ := hv
    rw [ev]
    walk_at "go"
    refine ⟨isLst_c H.rp, ?_⟩
    walk_at "go"
    refine draw_fz rfl H.ra hs (by omega) (by decide) (by decide) fun n s1 n0 n1 hs1 => ?_
    have H1 := H.draw (s' := s1)
    walk_at "go"
    refine ix_i (xs := ws.map .str) rfl ht ?_
    walk_at "go"
    refine draw_fz rfl H1.ra hs1 (by omega) (by decide) (by decide) fun f s2 f0 f1 hs2 => ?_
    have H2 := H1.draw (s' := s2)
    walk_at "go"
    intro l hl
    walk_at "go"
    have H3 := H2.push (w := w) (n := n) (rs := [⟨t, [v], 1 + f⟩]) hl
    have lp : l ≠ p := fun z => by rw [z, H2.rp] at hl; cases hl
    have Ll : L.length = g := by
      have := congrArg List.length hw
      rw [List.length_map, List.length_take] at this
      omega
    refine ⟨L.map rowS, by rw [eupd_ne lp.symm]; exact H2.rp, szT (by rw [List.length_map]; omega), ?_⟩
    refine ring1_loop nd hwl h1 h3 W (fun i => gf (i + 1)) (g + 1) (L ++ [(⟨⟨w, n, [⟨t, [v], 1 + f⟩]⟩, l⟩ : RowS)]) s2 (b + 2) _ _ _ _ _ _ _ (fun i => by rw [hgf]; omega) (by omega) hdt H3 (hs2.mono (by omega)) (by omega) ?_ (fun t' ht' => ?_) fun L' s' eh' z4 z5 z6 z7 z8 z9 g1 g2 g3 g4 => k L' s' eh' z4 z5 z6 z7 z8 z9 g1 (g2.mono (by omega)) g3 g4
    · rw [List.map_append, hw, List.take_add_one, hgw]; rfl
    · rcases List.mem_append.mp ht' with h | h
      · exact hx t' h
      · rw [List.mem_singleton.mp h]
        refine ⟨rfl, fun x hx => ?_⟩
        rw [List.mem_singleton.mp hx]
        exact ⟨htm, by show 1 + f ≠ 0; omega, v, rfl, v0, v5, vx⟩
end
theorem HpQ.add {eh0 : Eh} {a p : Addr} {s : Int × Int × Int} {eh : Eh} {L : List RowS} {i : Nat} {t : RowS} {x : Rd} (h : HpQ eh0 a p s eh L) (ht : L[i]? = some t) :
    HpQ eh0 a p s (eupd eh t.p (some (.lst (t.r.rs.map rdE ++ [rdE x])))) (L.set i (⟨⟨t.r.w, t.r.n, t.r.rs ++ [x]⟩, t.p⟩ : RowS)) := by
  have hm : t ∈ L := List.mem_of_getElem? ht
  obtain ⟨n0, na, np⟩ := h.new t hm
  have hset : (L.map (·.p))[i]? = some t.p := by simp [ht]
  have hne : ∀ u ∈ L, ∀ j, j ≠ i → L[j]? = some u → u.p ≠ t.p := fun u _ j hj e z => hj (nodup_at h.nd (x := t.p) (by simp [e, z]) hset)
  refine ⟨by rw [eupd_ne na.symm]; exact h.ra, ?_, fun u hu => ?_, ?_, fun u hu => ?_, h.p0, h.a0, fun c hc hca => by rw [eupd_ne (show c ≠ t.p from fun z => hc (by rw [z]; exact n0))]; exact h.kp c hc hca⟩
  · rw [eupd_ne np.symm, map_set_same rowS L i t (⟨⟨t.r.w, t.r.n, t.r.rs ++ [x]⟩, t.p⟩ : RowS) ht rfl]; exact h.rp
  · rcases mem_set hu with rfl | ⟨j, hj, e⟩
    · rw [eupd_same]; simp
    · have hu' := List.mem_of_getElem? e
      rw [eupd_ne (hne u hu' j hj e)]; exact h.at_ u hu'
  · rw [map_set_same (fun t : RowS => t.p) L i t (⟨⟨t.r.w, t.r.n, t.r.rs ++ [x]⟩, t.p⟩ : RowS) ht rfl]; exact h.nd
  · rcases mem_set hu with rfl | ⟨j, hj, e⟩
    · exact ⟨n0, na, np⟩
    · exact h.new u (List.mem_of_getElem? e)
theorem fzI_r {i n : Nat} {ms : MS} {xc : XC} {d : Dn} {es : Es} {eh : Eh} (p : Addr) (xs : List EV) (S : Addr → Bool) (h1 : es[i]? = some (some (.ref p))) (h2 : eh p = some (.lst xs)) (h3 : S p = false) (h : ms xc d es (eupd (drE S eh) p (some (.lst (xs.map (fz S eh n)))))) : sFzI i n ms xc d es eh := ⟨p, xs, S, h1, h2, h3, h⟩
theorem fzl2 {S : Addr → Bool} {eh : Eh} {k : Nat} {a : Addr} {xs ys : List EV} (h : S a = true) (e : eh a = some (.lst xs)) (hy : xs.map (fz S eh k) = ys) : fz S eh (k + 1) (.ref a) = .lst ys := by
  rw [← hy]
  simp only [fz, h, e, if_true]
/-- the tables of the ring -/
structure RingF (rows : List Row) : Prop where
  fit : ∀ md, 2 ≤ md → SysFit 1 md rows
  ln : 4 ≤ rows.length ∧ rows.length ≤ 6
  rk : ∃ ws : List Str, ws.length ≤ 6 ∧ ∀ r ∈ rows, ∀ x ∈ r.rs, RkX ws r.w x
  wd : ∀ r ∈ rows, r.w ∈ WORDS
section
variable {xc : XC} {S : Addr → Bool} {q : KE} {eh : Eh}
theorem ring_fz {a : Addr} {s : Int × Int × Int} {b : Int} (hS : S = nw eh) (h : eh a = some (rgO s)) (hs : RgOk b s) (hb : b + 3000 ≤ 800000000)
    (k : ∀ (rows : List Row) (s' : Int × Int × Int), RingF rows → RgOk (b + 400) s' → q (.lst (rows.map rowE)) (eupd eh a (some (rgO s')))) : ([EV.ref a] ++ []).length = 1 ∧ FZ S fn__law_ring xc ([EV.ref a] ++ []) eh q := by
  refine ⟨rfl, ?_⟩
  subst hS
  have ha : eh a ≠ none := by rw [h]; simp
  unfold FZ fn__law_ring ms__law_ring
  walk_at "go"
  refine mixed_fz (ws := W0) rfl h hs (by omega) (by decide) fun ts s1 hp hs1 => ?_
  walk_at "go"
  refine draw_fz rfl eupd_same hs1 (by omega) (by decide) (by decide) fun v s2 v0 v3 hs2 => ?_
  rw [eupd_eupd]
  walk_at "go"
  refine ⟨ts.map .str, rfl, ?_⟩
  obtain ⟨m, hm⟩ : ∃ m : Nat, (4 : Int) + v = (m : Int) := ⟨(4 + v).toNat, by omega⟩
  rw [hm, cut_take, ← List.map_take]
  obtain ⟨nd1, mem1⟩ := take_perm hp m
  have hlen1 : (ts.take m).length = m := by
    rw [List.length_take, hp.length_eq]
    show min m 6 = _
    omega
  generalize ts.take m = ws at *
  walk_at "go"
  refine draw_fz rfl eupd_same hs2 (by omega) (by decide) (by decide) fun u s3 u0 u3 hs3 => ?_
  rw [eupd_eupd]
  walk_at "go"
  intro p hp0
  have pa : p ≠ a := fun z => by rw [z, eupd_same] at hp0; cases hp0
  have p00 : eh p = none := by rw [eupd_ne pa] at hp0; exact hp0
  walk_at "go"
  refine ⟨_, _, rfl, ?_⟩
  walk_at "go"
  have H0 : HpQ eh a p s3 (eupd (eupd eh a (some (rgO s3))) p (some (.lst []))) [] :=
    ⟨by rw [eupd_ne pa.symm, eupd_same], eupd_same, by simp, by simp, by simp, p00, ha, fun c hc hca => by rw [eupd_ne (show c ≠ p from fun z => hc (by rw [z]; exact p00)), eupd_ne hca]⟩
  have wl : ws.length ≤ 6 := by omega
  have hb3 : b + 103 ≤ b + 200 := by omega
  refine ⟨_, _, _, rfl, rfl, ?_⟩
  show forL _ _ _ _ _ _ [some (.ref a), some (.lst (ws.map .str)), some (.int (1 + u)), some (.ref p), none, none, none, none, none, none] _
  refine ring1_loop nd1 (by omega) (by omega) (by omega) ws (fun i => i) 0 [] s3 (b + 150) _ _ _ _ _ _ _ (fun i => (Nat.zero_add i).symm) (by omega) rfl H0 (hs3.mono (by omega)) (by omega) (by simp) (by simp) fun L s4 eh4 z4 z5 z6 z7 z8 z9 H4 hs4 hw4 hx4 => ?_
  walk_at "go"
  refine draw_fz rfl H4.ra hs4 (by omega) (by decide) (by decide) fun v2 s5 g0 g1 hs5 => ?_
  have H5 := H4.draw (s' := s5)
  walk_at "go"
  refine ⟨_, rfl, by omega, ?_⟩
  have Ll : L.length = ws.length := by rw [← hw4, List.length_map]
  have sum0 : (L.map fun t => t.r.rs.length).sum ≤ 6 := by
    have : ∀ l : List RowS, (∀ t ∈ l, t.r.rs.length = 1) → (l.map fun t => t.r.rs.length).sum = l.length := fun l => by
      induction l with
      | nil => intro _; rfl
      | cons y l ih => intro hl; simp [hl y (by simp), ih fun t ht => hl t (by simp [ht])]; omega
    rw [this L fun t ht => (hx4 t ht).1]; omega
  refine for_inv (c := fun i : Nat => EV.int (i : Int)) (fun T es eh' => ∃ (L' : List RowS) (s' : Int × Int × Int) (c : Nat) (z4 z5 z6 z7 z8 z9 : Option EV), c + T.length = v2.toNat ∧ HpQ eh a p s' eh' L' ∧ RgOk (b + 200 + 10 * c) s' ∧ L'.map (·.r.w) = ws ∧ (∀ t ∈ L', ∀ x ∈ t.r.rs, RkX ws t.r.w x) ∧ (L'.map fun t => t.r.rs.length).sum ≤ 6 + c ∧ es = [some (.ref a), some (.lst (ws.map .str)), some (.int (1 + u)), some (.ref p), z4, z5, z6, z7, z8, z9])
    ⟨L, s5, 0, _, _, _, _, _, _, by simp, H5, hs5.mono (by omega), hw4, fun t ht => (hx4 t ht).2, by omega, rfl⟩ ?_ ?_
  · rintro i T es eh' ⟨L', s', c, z4, z5, z6, z7, z8, z9, hc, H, hs', hw, hx, hsum, rfl⟩
    simp only [List.length_cons] at hc
    refine ⟨trivial, _, rfl, fun d' _ hnx _ _ => ?_⟩
    have Ll' : L'.length = ws.length := by rw [← hw, List.length_map]
    unfold bd__law_ring_2
    walk_at "go"
    refine len_i (xs := L'.map rowS) (by simp only [seqE, H.rp]) ?_
    rw [List.length_map]
    walk_at "go"
    refine draw_fz rfl H.ra hs' (by omega) (by omega) (by omega) fun j s6 j0 j1 hs6 => ?_
    have H6 := H.draw (s' := s6)
    obtain ⟨j, rfl⟩ := Int.eq_ofNat_of_zero_le j0
    have hj : j < L'.length := by omega
    have ht : L'[j]? = some L'[j] := List.getElem?_eq_getElem hj
    generalize L'[j] = t at ht
    have htm : t ∈ L' := List.mem_of_getElem? ht
    refine ix_i (xs := L'.map rowS) (z := rowS t) (by simp only [seqE, H6.rp]) (at_cells ht) ?_
    walk_at "go"
    refine ⟨isLst_c (H6.at_ t htm), ?_⟩
    walk_at "go"
    rw [List.length_map]
    refine draw_fz rfl H6.ra hs6 (by omega) (by omega) (by omega) fun x1 s7 x0 x2 hs7 => ?_
    have H7 := H6.draw (s' := s7)
    obtain ⟨m2, rfl⟩ := Int.eq_ofNat_of_zero_le x0
    have hm2 : m2 < ws.length := by omega
    refine ix_i (xs := ws.map .str) (z := .str ws[m2]) rfl (at_cells (List.getElem?_eq_getElem hm2)) ?_
    walk_at "go"
    refine draw_fz rfl H7.ra hs7 (by omega) (by decide) (by decide) fun y s8 y0 y5 hs8 => ?_
    have H8 := H7.draw (s' := s8)
    walk_at "go"
    refine ⟨t.r.rs.map rdE, H8.at_ t htm, szT (by
      rw [List.length_map]
      have : t.r.rs.length ≤ (L'.map fun t => t.r.rs.length).sum := le_sum (List.mem_map.mpr ⟨t, htm, rfl⟩)
      omega), ?_⟩
    have H9 := H8.add (x := ⟨ws[m2], [1 + y], 1⟩) ht
    refine hnx _ _ ⟨_, s8, c + 1, _, _, _, _, _, _, by omega, H9, hs8.mono (by omega), ?_, fun u hu x hux => ?_, ?_, rfl⟩
    · rw [map_set_same (fun t : RowS => t.r.w) L' j t (⟨⟨t.r.w, t.r.n, t.r.rs ++ [(⟨ws[m2], [1 + y], 1⟩ : Rd)]⟩, t.p⟩ : RowS) ht rfl]; exact hw
    · rcases mem_set hu with rfl | ⟨k2, hk2, e⟩
      · rcases List.mem_append.mp hux with h1 | h1
        · exact hx t htm x h1
        · rw [List.mem_singleton.mp h1]
          exact ⟨List.getElem_mem hm2, by show (1 : Int) ≠ 0; decide, 1 + y, rfl, by omega, by omega, fun z => by omega⟩
      · exact hx u (List.mem_of_getElem? e) x hux
    · have := sum_set (fun t : RowS => t.r.rs.length) L' j t (⟨⟨t.r.w, t.r.n, t.r.rs ++ [(⟨ws[m2], [1 + y], 1⟩ : Rd)]⟩, t.p⟩ : RowS) ht
      simp only [List.length_append, List.length_cons, List.length_nil] at this
      omega
  · rintro es eh' ⟨L', s', c, z4, z5, z6, z7, z8, z9, hc, H, hs', hw, hx, hsum, rfl⟩
    simp only [List.length_nil, Nat.add_zero] at hc
    refine ⟨trivial, ?_⟩
    dsimp only
    refine fzI_r p (L'.map rowS) (fun c => nw eh c && !decide (c = p)) rfl H.rp (by simp) ?_
    have frz : (L'.map rowS).map (fz (fun c => nw eh c && !decide (c = p)) eh' 9) = (L'.map (·.r)).map rowE := by
      rw [List.map_map, List.map_map]
      refine List.map_congr_left fun t ht => ?_
      show EV.tup [fz _ eh' 8 (.str t.r.w), fz _ eh' 8 (.int t.r.n), fz _ eh' 8 (.ref t.p)] = _
      rw [fzl2 (k := 7) (S := fun c => nw eh c && !decide (c = p)) (by have := H.new t ht; simp [nw, this.1, this.2.2]) (H.at_ t ht) (fz_rds (k := 5) t.r.rs)]; rfl
    rw [frz]
    refine fzV_i rfl eupd_same ?_
    have eheap : eupd (eupd (drE (fun c => nw eh c && !decide (c = p)) eh') p (some (.lst ((L'.map (·.r)).map rowE)))) p none = eupd eh a (some (rgO s')) := by
      funext c
      by_cases hcp : c = p
      · subst hcp
        rw [eupd_same, eupd_ne H.pa, H.p0]
      · rw [eupd_ne hcp, eupd_ne hcp]
        show (if (nw eh c && !decide (c = p)) = true then none else eh' c) = _
        cases e : eh c with
        | none =>
          have hca : c ≠ a := fun z => ha (z ▸ e)
          rw [if_pos (by simp [nw, e, hcp]), eupd_ne hca, e]
        | some o =>
          rw [if_neg (by simp [nw, e])]
          by_cases hca : c = a
          · subst hca; rw [H.ra, eupd_same]
          · rw [H.kp c (by rw [e]; simp) hca, eupd_ne hca]
    rw [eheap]
    walk_at "go"
    have rl : (L'.map (·.r)).length = m := by rw [List.length_map, ← hlen1, ← hw, List.length_map]
    refine mixedE_fz (n := 4) (ws := (L'.map (·.r)).map rowE) (b := b + 250) rfl eupd_same (hs'.mono (by omega)) (by omega) (by rw [List.length_map]; omega) (fun x hx => by obtain ⟨r, _, rfl⟩ := List.mem_map.mp hx; exact okD_row r) (by decide) fun ts2 s9 hp9 hs9 => ?_
    rw [eupd_eupd]
    obtain ⟨rows, hpr, rfl⟩ := perm_map hp9 (L'.map (·.r)) rfl
    refine fin_rg ha (n := 5) (okB_of (okD_rows rows)) (k rows s9 ?_ (hs9.mono (by omega)))
    have ew : (L'.map (·.r)).map (·.w) = ws := by rw [List.map_map]; exact hw
    have pw : (rows.map (·.w)).Perm ws := by have := hpr.map (·.w); rw [ew] at this; exact this
    have rx : ∀ r ∈ rows, ∀ x ∈ r.rs, RkX ws r.w x := fun r hr x hxr => by
      obtain ⟨t, ht, rfl⟩ := List.mem_map.mp (hpr.mem_iff.mp hr)
      exact hx t ht x hxr
    have wdw : ∀ w ∈ ws, w ∈ WORDS := fun w hw => List.mem_append_left _ (mem1 w hw)
    have wdr : ∀ r ∈ rows, r.w ∈ WORDS := fun r hr => wdw r.w (pw.mem_iff.mp (List.mem_map.mpr ⟨r, hr, rfl⟩))
    refine ⟨fun md hmd => ⟨by decide, ?_, pw.nodup_iff.mpr nd1, fun r hr => ⟨words_ok _ (wdr r hr), fun x hxr => ?_⟩, ?_, hmd, fun r hr x hxr => pw.mem_iff.mpr (rx r hr x hxr).t⟩, ?_, ⟨ws, wl, rx⟩, wdr⟩
    · rw [hpr.length_eq, rl]; omega
    · have z := rx r hr x hxr
      obtain ⟨vv, ev, _⟩ := z.v
      exact ⟨words_ok _ (wdw _ z.t), by rw [ev]; rfl, z.f⟩
    · rw [(hpr.map fun r => r.rs.length).sum_nat, List.map_map]
      have : (L'.map fun t => t.r.rs.length).sum ≤ 6 + c := hsum
      show (L'.map fun t => t.r.rs.length).sum ≤ 12
      omega
    · rw [hpr.length_eq, rl]; omega
end

/-! ### the ring: all its cells are ready, and they are few -/
theorem RingF.vec {rows : List Row} (h : RingF rows) : ∀ r ∈ sortR rows, ∀ x ∈ r.rs, ∃ s : Int, x.v = [s] ∧ 0 ≤ s ∧ s ≤ 5 := fun r hr x hx => by
  obtain ⟨ws, _, hk⟩ := h.rk
  obtain ⟨s, e, s0, s5, _⟩ := (hk r ((sortR_perm rows).mem_iff.mp hr) x hx).v
  exact ⟨s, e, s0, s5⟩
theorem RingF.sm {rows : List Row} (h : RingF rows) : SmR 1 (sortR rows) := by
  refine ⟨(h.fit 2 (by decide)).toR, .inl rfl, fun _ => ⟨by rw [(sortR_perm rows).length_eq]; exact h.ln.2, fun r hr x hx v hv => ?_⟩, fun z => by cases z⟩
  obtain ⟨s, e, s0, _⟩ := h.vec r hr x hx
  rw [e] at hv
  rw [List.mem_singleton.mp hv]
  omega
theorem one_cell {rs : List Row} {c : Cel} (hc : cellOk 1 rs c = true) : ∃ p : Nat, c.2 = [(p : Int)] := by
  obtain ⟨h1, h2, _⟩ := cellOk_len hc
  obtain ⟨w, pt⟩ := c
  match pt, h1, h2 with
  | [p], _, h2 =>
    have : 0 ≤ p := h2
    obtain ⟨n, rfl⟩ := Int.eq_ofNat_of_zero_le this
    exact ⟨n, rfl⟩
theorem RingF.step {rows : List Row} (h : RingF rows) {ws : List Str} (wl : ws.length ≤ 6) (hk : ∀ r ∈ rows, ∀ x ∈ r.rs, RkX ws r.w x) {c d : Cel} {p : Nat} (hc : cellOk 1 (sortR rows) c = true) (hp : c.2 = [(p : Int)]) (hd : d ∈ nextC (sortR rows) c) :
    cellOk 1 (sortR rows) d = true ∧ ∃ p1 : Nat, d.2 = [(p1 : Int)] ∧ p1 ≤ p ∧ p1 * 7 + ixW ws d.1 < p * 7 + ixW ws c.1 := by
  have R := h.sm.R
  obtain ⟨r, hr, ew, _, en⟩ := cell_fit R hc
  have dok := nextC_ok R hc hd
  refine ⟨dok, ?_⟩
  rw [en, hp] at hd
  obtain ⟨x, hx, hm, rfl⟩ := cellsR_mem.mp hd
  obtain ⟨s, ev, s0, s5, sx⟩ := (hk r ((sortR_perm rows).mem_iff.mp hr) x hx).v
  obtain ⟨p1, hp1⟩ := one_cell dok
  refine ⟨p1, hp1, ?_⟩
  rw [ev] at hp1
  have e : (p : Int) - s = (p1 : Int) := congrArg (fun l : List Int => l.getD 0 0) hp1
  have l1 := ixW_le ws x.t
  refine ⟨by omega, ?_⟩
  show p1 * 7 + ixW ws x.t < _
  by_cases z : s = 0
  · have := sx z
    rw [ew] at this
    omega
  · omega
theorem RingF.rdy {rows : List Row} (h : RingF rows) {c : Cel} (hc : cellOk 1 (sortR rows) c = true) : Rdy (nextC (sortR rows)) c := by
  obtain ⟨ws, wl, hk⟩ := h.rk
  have key : ∀ (n : Nat) (c : Cel) (p : Nat), cellOk 1 (sortR rows) c = true → c.2 = [(p : Int)] → p * 7 + ixW ws c.1 = n → Rdy (nextC (sortR rows)) c := fun n => by
    induction n using Nat.strongRecOn with
    | ind n ih =>
      intro c p hc hp hn
      refine Acc.intro c fun d hd => ?_
      obtain ⟨dok, p1, hp1, _, hlt⟩ := h.step wl hk hc hp hd
      exact ih _ (by omega) d p1 dok hp1 rfl
  obtain ⟨p, hp⟩ := one_cell hc
  exact key _ c p hc hp rfl
theorem RingF.few {rows : List Row} (h : RingF rows) {c : Cel} (hc : cellOk 1 (sortR rows) c = true) (hp : ∀ x ∈ c.2, x ≤ 200) : ¬ Man (nextC (sortR rows)) c := by
  rintro ⟨par, nd, hl, hm⟩
  obtain ⟨ws, wl, hk⟩ := h.rk
  obtain ⟨p, ep⟩ := one_cell hc
  have hp200 : p ≤ 200 := by have := hp (p : Int) (by rw [ep]; simp); omega
  have reach : ∀ d a, Pth (nextC (sortR rows)) d a → ∀ p : Nat, cellOk 1 (sortR rows) a = true → a.2 = [(p : Int)] → cellOk 1 (sortR rows) d = true ∧ ∃ p1 : Nat, d.2 = [(p1 : Int)] ∧ p1 ≤ p := fun d a hpt => by
    induction hpt with
    | one h1 =>
      intro p ha hp
      obtain ⟨g1, p1, g2, g3, _⟩ := h.step wl hk ha hp h1
      exact ⟨g1, p1, g2, g3⟩
    | step h1 _ ih =>
      intro p ha hp
      obtain ⟨g1, p1, g2, g3, _⟩ := h.step wl hk ha hp h1
      obtain ⟨k1, p2, k2, k3⟩ := ih p1 g1 g2
      exact ⟨k1, p2, k2, by omega⟩
  have sub : ∀ d ∈ par, d ∈ bx1 ((sortR rows).map (·.w)) p := fun d hd => by
    have hd2 : cellOk 1 (sortR rows) d = true ∧ ∃ p1 : Nat, d.2 = [(p1 : Int)] ∧ p1 ≤ p := by
      rcases hm d hd with rfl | hpt
      · exact ⟨hc, p, ep, Nat.le_refl _⟩
      · exact reach d c hpt p hc ep
    obtain ⟨k1, p1, k2, k3⟩ := hd2
    unfold bx1
    refine List.mem_flatMap.mpr ⟨d.1, (cellOk_len k1).2.2, List.mem_map.mpr ⟨p1, List.mem_range.mpr (by omega), ?_⟩⟩
    rw [← k2]
  have := nodup_le nd sub
  rw [bx1_len, List.length_map, (sortR_perm rows).length_eq] at this
  have l6 := h.ln.2
  have : rows.length * (p + 1) ≤ 6 * 201 := Nat.mul_le_mul l6 (by omega)
  omega

/-! ### a cell drawn: its table by the system's names, its point by _law_point -/
theorem here_i {xc : XC} {a : Addr} {s : Int × Int × Int} {b dims md : Int} {rows : List Row} {im ir idd : Nat} {es : Es} {eh : Eh} {q : KE} (ha : eh a = some (rgO s)) (hs : RgOk b s) (hb : b + 200 ≤ 800000000) (F : SmF dims rows) (hmd : 2 ≤ md)
    (e1 : es[1]? = some (some (.ref a))) (em : es[im]? = some (some (sysE dims md (sortR rows)))) (er : es[ir]? = some (some (.lst (rows.map rowE)))) (ed : es[idd]? = some (some (.int dims)))
    (k : ∀ (c : Cel) (s' : Int × Int × Int), cellOk dims (sortR rows) c = true → InP dims c.2 → RgOk (b + 30) s' → q (cellE c) (eupd eh a (some (rgO s')))) :
    (mTup (aCons (mOp oIx (mFz 9 (mProp "System" fn_System_names 1 [] (mVar im))) (mFz 9 (mCall fn__law_draw 2 [] (aCons (mVar 1) (aCons (mCB bLen (aCons (mVar ir) aNil)) aNil))))) (aCons (mFz 9 (mCall fn__law_point 2 [] (aCons (mVar 1) (aCons (mVar idd) aNil)))) aNil))) xc es eh q := by
  have Sm := F.sm
  have R := Sm.R
  have hd := R.d
  have fit := F.fit md hmd
  have hlen := (sortR_perm rows).length_eq
  have hl := fit.l
  refine tup_i ?_
  refine acons_i ?_
  refine op_i ?_
  refine fzp_i ?_
  refine var_i em ?_
  refine ⟨_, rfl, rfl, ?_⟩
  refine names_fz rfl ?_
  refine fzc_i ?_
  refine acons_i ?_
  refine var_i e1 ?_
  refine acons_i ?_
  refine cb_i ?_
  refine acons_i ?_
  refine var_i er ?_
  walk_at "go"
  rw [List.length_map]
  refine draw_fz rfl ha hs (by omega) (by omega) (by omega) fun w s1 w0 w1 hs1 => ?_
  obtain ⟨j, rfl⟩ := Int.eq_ofNat_of_zero_le w0
  have hat : (sortR rows)[j]? = some ((sortR rows)[j]'(by omega)) := List.getElem?_eq_getElem (by omega)
  generalize (sortR rows)[j]'(by omega) = r at hat
  have hr : r ∈ sortR rows := List.mem_of_getElem? hat
  refine ix_i (xs := (sortR rows).map fun r => .str r.w) rfl (at_cells (f := fun r : Row => EV.str r.w) hat) ?_
  refine acons_i ?_
  refine fzc_i ?_
  refine acons_i ?_
  refine var_i e1 ?_
  refine acons_i ?_
  refine var_i ed ?_
  refine anil_i ?_
  refine point_fz rfl eupd_same hs1 (by omega) F.d fun v s2 vl hv hs2 => ?_
  rw [eupd_eupd]
  refine anil_i ?_
  have hc : cellOk dims (sortR rows) (r.w, v) = true := by
    simp only [cellOk, Bool.and_eq_true, decide_eq_true_eq]
    exact ⟨List.mem_map.mpr ⟨r, hr, rfl⟩, by omega, mnI_nonneg fun n hn => (hv n hn).1⟩
  have inp : InP dims v := fun n hn => by
    have h := (hv n hn).2
    show n ≤ if dims = 1 then 200 else 10
    by_cases e : dims = 1
    · rw [if_pos e] at h ⊢; omega
    · rw [if_neg e] at h ⊢; omega
  exact ⟨szl (by simp), k (r.w, v) s2 hc inp (hs2.mono (by omega))⟩

/-! ### the way of filling in values -/
def opnC (nx : Cel → List Cel) (kn : List Cel) (c : Cel) : List Cel := (nx c).filter fun d => decide (d ∉ kn)
def addK (kn : List Cel) (c : Cel) : List Cel := if c ∈ kn then kn else kn ++ [c]
theorem addK_mem {kn : List Cel} {c x : Cel} : x ∈ addK kn c ↔ x ∈ kn ∨ x = c := by
  unfold addK; split
  · exact ⟨.inl, fun h => h.elim id fun e => by rw [e]; assumption⟩
  · simp
theorem addK_nd {kn : List Cel} {c : Cel} (h : kn.Nodup) : (addK kn c).Nodup := by
  unfold addK; split
  · exact h
  · rename_i hc
    exact List.nodup_append.mpr ⟨h, by simp, fun a ha b hb e => hc (by rw [List.mem_singleton] at hb; rw [← hb, ← e]; exact ha)⟩
/-- so many turns from a stack (its head is the last of the waiting) until nothing waits -/
inductive Fil (nx : Cel → List Cel) (P : Cel → Prop) (B : Nat) : Nat → List Cel → List Cel → List Cel → Prop
  | done {kn : List Cel} : Fil nx P B 0 [] kn kn
  | more {n : Nat} {c : Cel} {s kn kn' : List Cel} : (c :: s).length ≤ B → P c → opnC nx kn c ≠ [] → Fil nx P B n ((opnC nx kn c).reverse ++ c :: s) kn kn' → Fil nx P B (n + 1) (c :: s) kn kn'
  | put {n : Nat} {c : Cel} {s kn kn' : List Cel} : (c :: s).length ≤ B → P c → opnC nx kn c = [] → Fil nx P B n s (addK kn c) kn' → Fil nx P B (n + 1) (c :: s) kn kn'
theorem opn_nil {nx : Cel → List Cel} {kn : List Cel} {c : Cel} : opnC nx kn c = [] ↔ ∀ d ∈ nx c, d ∈ kn := by
  unfold opnC
  rw [List.filter_eq_nil_iff]
  exact ⟨fun h d hd => Classical.byContradiction fun z => h d hd (by simpa using z), fun h d hd => by simpa using h d hd⟩
theorem fil_list {nx : Cel → List Cel} {P : Cel → Prop} {B : Nat} {c : Cel} {s : List Cel} {k : Nat} (ih : ∀ d ∈ nx c, ∀ (s kn : List Cel), s.length + 1 ≤ k → ∃ kn1, (∀ x ∈ kn, x ∈ kn1) ∧ d ∈ kn1 ∧ ∀ n kn', Fil nx P B n s kn1 kn' → ∃ m, Fil nx P B m (d :: s) kn kn') :
    ∀ (L kn : List Cel), (∀ d ∈ L, d ∈ nx c) → L.length + s.length + 1 ≤ k → ∃ kn1, (∀ x ∈ kn, x ∈ kn1) ∧ (∀ d ∈ L, d ∈ kn1) ∧ ∀ n kn', Fil nx P B n (c :: s) kn1 kn' → ∃ m, Fil nx P B m (L ++ c :: s) kn kn'
  | [], kn, _, _ => ⟨kn, fun x h => h, by simp, fun n kn' h => ⟨n, h⟩⟩
  | d :: L, kn, hL, hk => by
    obtain ⟨k1, a1, a2, a3⟩ := ih d (hL d (by simp)) (L ++ c :: s) kn (by simp only [List.length_append, List.length_cons] at hk ⊢; omega)
    obtain ⟨k2, b1, b2, b3⟩ := fil_list (c := c) (s := s) ih L k1 (fun x hx => hL x (by simp [hx])) (by simp only [List.length_cons] at hk; omega)
    refine ⟨k2, fun x hx => b1 x (a1 x hx), fun x hx => ?_, fun n kn' h => ?_⟩
    · rcases List.mem_cons.mp hx with rfl | hx
      · exact b1 _ a2
      · exact b2 x hx
    · obtain ⟨m, h1⟩ := b3 n kn' h
      exact a3 m kn' h1
theorem fil_one {dims : Int} {rs : List Row} {s0 : Cel} {bx : List Cel} {B : Nat} (R : SysR dims rs) (hs : cellOk dims rs s0 = true) (L : Lim (nextC rs) s0 bx B) (hr : Rdy (nextC rs) s0) {c : Cel} (hc : Rdy (nextC rs) c) :
    ∀ Q, Wy (nextC rs) s0 (c :: Q) → ∀ (s kn : List Cel), s.length ≤ 12 * Q.length → ∃ kn1, (∀ x ∈ kn, x ∈ kn1) ∧ c ∈ kn1 ∧ ∀ n kn', Fil (nextC rs) (fun c => c ∈ bx ∧ cellOk dims rs c = true ∧ Rdy (nextC rs) c) (12 * B + 1) n s kn1 kn' → ∃ m, Fil (nextC rs) (fun c => c ∈ bx ∧ cellOk dims rs c = true ∧ Rdy (nextC rs) c) (12 * B + 1) m (c :: s) kn kn' := by
  induction hc with
  | intro c hcc ih =>
    intro Q hW s kn hl
    obtain ⟨w1, w2⟩ := L.l _ hW
    have wo := wy_ok R hs hW c (by simp)
    have pc : c ∈ bx ∧ cellOk dims rs c = true ∧ Rdy (nextC rs) c := ⟨w2 c (by simp), wo, .intro c hcc⟩
    have hb : (c :: s).length ≤ 12 * B + 1 := by simp only [List.length_cons] at w1 ⊢; omega
    have nl := nextC_len R wo
    have ih2 : ∀ d ∈ nextC rs c, ∀ (s kn : List Cel), s.length + 1 ≤ 12 * (Q.length + 1) + 1 → ∃ kn1, (∀ x ∈ kn, x ∈ kn1) ∧ d ∈ kn1 ∧ ∀ n kn', Fil (nextC rs) (fun c => c ∈ bx ∧ cellOk dims rs c = true ∧ Rdy (nextC rs) c) (12 * B + 1) n s kn1 kn' → ∃ m, Fil (nextC rs) (fun c => c ∈ bx ∧ cellOk dims rs c = true ∧ Rdy (nextC rs) c) (12 * B + 1) m (d :: s) kn kn' := by
      intro d hd s2 kn2 h2
      refine ih d hd (c :: Q) (.cons hW hd fun b hb e => ?_) s2 kn2 (by simp only [List.length_cons]; omega)
      obtain ⟨n, hn⟩ := List.mem_iff_getElem?.mp (List.mem_reverse.mpr hb)
      exact told_not R hs hW hd hn e hr
    by_cases ho : opnC (nextC rs) kn c = []
    · exact ⟨addK kn c, fun x hx => addK_mem.mpr (.inl hx), addK_mem.mpr (.inr rfl), fun n kn' h => ⟨n + 1, .put hb pc ho h⟩⟩
    · have ol : (opnC (nextC rs) kn c).reverse.length ≤ 12 := by rw [List.length_reverse]; exact Nat.le_trans (List.length_filter_le _ _) nl
      obtain ⟨k1, a1, a2, a3⟩ := fil_list (B := 12 * B + 1) (P := fun c => c ∈ bx ∧ cellOk dims rs c = true ∧ Rdy (nextC rs) c) (c := c) (s := s) (k := 12 * (Q.length + 1) + 1) ih2 (opnC (nextC rs) kn c).reverse kn (fun d hd => (List.mem_filter.mp (List.mem_reverse.mp hd)).1) (by omega)
      have o1 : opnC (nextC rs) k1 c = [] := opn_nil.mpr fun d hd => by
        by_cases hk : d ∈ kn
        · exact a1 d hk
        · exact a2 d (List.mem_reverse.mpr (List.mem_filter.mpr ⟨hd, by simpa using hk⟩))
      refine ⟨addK k1 c, fun x hx => addK_mem.mpr (.inl (a1 x hx)), addK_mem.mpr (.inr rfl), fun n kn' h => ?_⟩
      obtain ⟨m, h1⟩ := a3 (n + 1) kn' (.put hb pc o1 h)
      exact ⟨m + 1, .more hb pc ho h1⟩
/-- a ready cell is filled in -/
theorem fil_all {dims : Int} {rs : List Row} {s0 : Cel} {bx : List Cel} {B : Nat} (R : SysR dims rs) (hs : cellOk dims rs s0 = true) (L : Lim (nextC rs) s0 bx B) (hr : Rdy (nextC rs) s0) (kn : List Cel) :
    ∃ n kn', Fil (nextC rs) (fun c => c ∈ bx ∧ cellOk dims rs c = true ∧ Rdy (nextC rs) c) (12 * B + 1) n [s0] kn kn' ∧ s0 ∈ kn' := by
  obtain ⟨kn1, _, a2, a3⟩ := fil_one R hs L hr hr [] .one [] kn (by simp)
  obtain ⟨m, h⟩ := a3 0 kn1 .done
  exact ⟨m, kn1, h, a2⟩
/-! ### values of ready cells -/
section
open Classical
variable {nx : Cel → List Cel}
noncomputable def valA (ev : Cel → (Cel → Int) → Int) (c : Cel) (h : Rdy nx c) : Int :=
  Acc.rec (motive := fun _ _ => Int) (fun c _ ih => ev c fun d => if hd : d ∈ nx c then ih d hd else 0) h
noncomputable def valC (nx : Cel → List Cel) (ev : Cel → (Cel → Int) → Int) (c : Cel) : Int := if h : Rdy nx c then valA ev c h else 0
theorem valC_eq {ev : Cel → (Cel → Int) → Int} (he : ∀ c f g, (∀ d ∈ nx c, f d = g d) → ev c f = ev c g) {c : Cel} (h : Rdy nx c) : valC nx ev c = ev c (valC nx ev) := by
  unfold valC
  rw [dif_pos h]
  cases h with
  | intro c hc =>
    show ev c (fun d => if hd : d ∈ nx c then valA ev d (hc d hd) else 0) = _
    refine he c _ _ fun d hd => ?_
    rw [dif_pos hd, dif_pos (hc d hd)]
end

/-! ### fill: the walk -/
theorem celD_put {f : Cel → EV} {c : Cel} {kn : List Cel} (h : c ∈ kn) : putN (celD f kn) (cK c) (f c) = celD f kn := by
  unfold putN
  rw [getN_some, decide_eq_true h]
  simp only [celD, if_true]
  rw [List.map_map]
  refine List.map_congr_left fun d _ => ?_
  simp only [Function.comp]
  by_cases e : d = c
  · subst e; simp
  · have : cK d ≠ cK c := fun z => e (cK_inj z)
    simp [this]
theorem celD_add {f : Cel → EV} {c : Cel} {kn : List Cel} : putN (celD f kn) (cK c) (f c) = celD f (addK kn c) := by
  unfold addK; split
  · rename_i h; exact celD_put h
  · rename_i h; exact putN_cell h

/-! ### check_ready, value -/
theorem checkready_fz {S : Addr → Bool} {xc : XC} {dims md : Int} {rs : List Row} {s : Cel} {bx : List Cel} {B : Nat} {eh : Eh} {q : KE} (hS : S = nw eh) (R : SysR dims rs) (hs : cellOk dims rs s = true) (L : Lim (nextC rs) s bx B) (hB : B + 10 ≤ sizeLine) (hbx : bx.length + 10 ≤ sizeLine)
    (hr : Rdy (nextC rs) s) (k0 : q .non eh) : ([sysE dims md rs, cellE s] ++ []).length = 2 ∧ FZ S fn_check_ready xc ([sysE dims md rs, cellE s] ++ []) eh q := by
  refine ⟨rfl, ?_⟩
  subst hS
  obtain ⟨r, hrr, ew, fit, _⟩ := cell_fit R hs
  unfold FZ fn_check_ready ms_check_ready
  walk_at "go"
  have e : cellE s = .tup [.str r.w, .tup (s.2.map .int)] := by rw [ew]; rfl
  rw [e]
  refine cell_fz rfl R.nd hrr fit.l fit.p fit.m ?_
  rw [← e]
  walk_at "go"
  refine readyin_fz rfl R hs L hB hbx (fun h => ?_) fun h => absurd hr h
  refine ⟨_, rfl, ?_⟩
  walk_at "go"
  exact fin_data (n := 0) .refl rfl k0

/-! ### the greatest lengths of ways -/
def lenV (nx : Cel → List Cel) (c : Cel) (V : Cel → Int) : Int := mxI ((nx c).map (fun d => V d + 1) ++ [0])
noncomputable def lenS (nx : Cel → List Cel) (c : Cel) : Int := valC nx (lenV nx) c
section
variable {nx nx2 : Cel → List Cel}
theorem lenS_eq {c : Cel} (h : Rdy nx c) : lenS nx c = mxI ((nx c).map (fun d => lenS nx d + 1) ++ [0]) :=
  valC_eq (ev := lenV nx) (fun c f g e => by unfold lenV; rw [List.map_congr_left fun d hd => by rw [e d hd]]) h
theorem lenS_le {c : Cel} (h : Rdy nx c) {m : Int} : lenS nx c ≤ m ↔ 0 ≤ m ∧ ∀ d ∈ nx c, lenS nx d + 1 ≤ m := by
  rw [lenS_eq h, mx_le (by simp)]
  constructor
  · exact fun k => ⟨k 0 (by simp), fun d hd => k _ (List.mem_append_left _ (List.mem_map.mpr ⟨d, hd, rfl⟩))⟩
  · rintro ⟨k1, k2⟩ y hy
    rcases List.mem_append.mp hy with hy | hy
    · obtain ⟨d, hd, rfl⟩ := List.mem_map.mp hy
      exact k2 d hd
    · rw [List.mem_singleton.mp hy]; exact k1
theorem lenS_nn {c : Cel} (h : Rdy nx c) : 0 ≤ lenS nx c := ((lenS_le h).mp (Int.le_refl _)).1
end

/-! ### the cells that are read, and what is read there -/
inductive Rea (nx : Cel → List Cel) (s : Cel) : Cel → Prop
  | refl : Rea nx s s
  | step {c d : Cel} : Rea nx s c → d ∈ nx c → Rea nx s d
section
variable {nx : Cel → List Cel} {s : Cel}
theorem Rea.trans {d c : Cel} (h : Rea nx s d) (r : Rea nx d c) : Rea nx s c := by
  induction r with
  | refl => exact h
  | step _ h2 ih => exact .step ih h2
end
section
variable {dims : Int} {rs : List Row} {s : Cel}
end
/-- what waits and what is known, both read -/
structure LnI (nx : Cel → List Cel) (s : Cel) (st kn : List Cel) : Prop where
  ast : ∀ c ∈ st, Rea nx s c
  akn : ∀ c ∈ kn, Rea nx s c
  acl : ∀ c ∈ kn, ∀ d ∈ nx c, d ∈ kn
section
variable {nx : Cel → List Cel} {s : Cel}
theorem LnI.one : LnI nx s [s] [] := ⟨fun c hc => by rw [List.mem_singleton.mp hc]; exact .refl, by simp, by simp⟩
theorem LnI.more {c : Cel} {st kn : List Cel} (h : LnI nx s (c :: st) kn) : LnI nx s ((opnC nx kn c).reverse ++ c :: st) kn :=
  ⟨fun x hx => by
    rcases List.mem_append.mp hx with hx | hx
    · exact .step (h.ast c (by simp)) (List.mem_filter.mp (List.mem_reverse.mp hx)).1
    · exact h.ast x hx, h.akn, h.acl⟩
theorem LnI.put {c : Cel} {st kn : List Cel} (ho : opnC nx kn c = []) (h : LnI nx s (c :: st) kn) : LnI nx s st (addK kn c) :=
  ⟨fun x hx => h.ast x (by simp [hx]), fun x hx => by
    rcases addK_mem.mp hx with hx | rfl
    · exact h.akn x hx
    · exact h.ast x (by simp), fun x hx d hd => by
    rcases addK_mem.mp hx with hx | rfl
    · exact addK_mem.mpr (.inl (h.acl x hx d hd))
    · exact addK_mem.mpr (.inl (opn_nil.mp ho d hd))⟩
theorem LnI.iff {kn : List Cel} (h : LnI nx s [] kn) (hs : s ∈ kn) {c : Cel} : c ∈ kn ↔ Rea nx s c := by
  refine ⟨h.akn c, fun r => ?_⟩
  induction r with
  | refl => exact hs
  | step _ h2 ih => exact h.acl _ ih _ h2
end

/-! ### lengths_from, longest_way: the walk -/
section
variable {dims md : Int} {rs : List Row} {s : Cel} {bx : List Cel} {B : Nat} {eh : Eh}
theorem lengths_ok {xc : XC} {q : KE} (R : SysR dims rs) (hs : cellOk dims rs s = true) (L : Lim (nextC rs) s bx B) (hr : Rdy (nextC rs) s) (hB : 12 * B + 30 ≤ sizeLine) (hbx : bx.length + 10 ≤ sizeLine)
    (k0 : ∀ (kn' : List Cel) (eh' : Eh) (k : Addr), s ∈ kn' → LnI (nextC rs) s [] kn' → kn'.Nodup → (∀ c ∈ kn', c ∈ bx ∧ cellOk dims rs c = true ∧ Rdy (nextC rs) c) → Kp eh eh' → eh k = none → eh' k = some (.dN (celD (fun c => .int (lenS (nextC rs) c)) kn')) → q (.ref k) eh') :
    fn_lengths_from xc [sysE dims md rs, cellE s] eh q := by
  obtain ⟨n0, knF, F0, hF⟩ := fil_all R hs L hr []
  unfold fn_lengths_from ms_lengths_from
  walk_at "go"
  intro k hk0
  walk_at "go"
  intro a0 ha0
  have c3 : k ≠ a0 := fun z => by rw [← z, eupd_same] at ha0; cases ha0
  have a00 : eh a0 = none := by rw [eupd_ne (Ne.symm c3)] at ha0; exact ha0
  walk_at "go"
  refine while_inv (fun t es eh' => ∃ (st kn' : List Cel) (z4 z5 z6 z7 : Option EV), es = [some (sysE dims md rs), some (cellE s), some (.ref k), some (.ref a0), z4, z5, z6, z7] ∧ eh' a0 = some (.lst (st.reverse.map cellE)) ∧ eh' k = some (.dN (celD (fun c => .int (lenS (nextC rs) c)) kn')) ∧
    Kp eh eh' ∧ LnI (nextC rs) s st kn' ∧ kn'.Nodup ∧ (∀ c ∈ kn', c ∈ bx ∧ cellOk dims rs c = true ∧ Rdy (nextC rs) c) ∧ Fil (nextC rs) (fun c => c ∈ bx ∧ cellOk dims rs c = true ∧ Rdy (nextC rs) c) (12 * B + 1) t st kn' knF) n0 ⟨[s], [], _, _, _, _, rfl, eupd_same, by rw [eupd_ne c3, eupd_same]; rfl, (Kp.new hk0).set a00, .one, List.nodup_nil, by simp, F0⟩ ?_
  rintro t es eh' ⟨st, kn', z4, z5, z6, z7, rfl, ha, hk', kp, li, nd', hb', F⟩ qt hq
  walk_at "go"
  refine neC_i (fro_ref ha) ?_
  have fin : ∀ (c : Cel) (s' : List Cel), st = c :: s' → c ∈ bx ∧ cellOk dims rs c = true ∧ Rdy (nextC rs) c → (c :: s').length ≤ 12 * B + 1 → (opnC (nextC rs) kn' c ≠ [] → ∃ m, t = m + 1 ∧ Fil (nextC rs) (fun c => c ∈ bx ∧ cellOk dims rs c = true ∧ Rdy (nextC rs) c) (12 * B + 1) m ((opnC (nextC rs) kn' c).reverse ++ c :: s') kn' knF) →
      (opnC (nextC rs) kn' c = [] → ∃ m, t = m + 1 ∧ Fil (nextC rs) (fun c => c ∈ bx ∧ cellOk dims rs c = true ∧ Rdy (nextC rs) c) (12 * B + 1) m s' (addK kn' c) knF) →
      ∀ d' : Dn, (∀ (m : Nat) (es1 : Es) (eh1 : Eh), m < t → (∃ (st kn' : List Cel) (z4 z5 z6 z7 : Option EV), es1 = [some (sysE dims md rs), some (cellE s), some (.ref k), some (.ref a0), z4, z5, z6, z7] ∧ eh1 a0 = some (.lst (st.reverse.map cellE)) ∧ eh1 k = some (.dN (celD (fun c => .int (lenS (nextC rs) c)) kn')) ∧
        Kp eh eh1 ∧ LnI (nextC rs) s st kn' ∧ kn'.Nodup ∧ (∀ c ∈ kn', c ∈ bx ∧ cellOk dims rs c = true ∧ Rdy (nextC rs) c) ∧ Fil (nextC rs) (fun c => c ∈ bx ∧ cellOk dims rs c = true ∧ Rdy (nextC rs) c) (12 * B + 1) m st kn' knF) → d'.nx es1 eh1) →
      bd_lengths_from_3 xc d' [some (sysE dims md rs), some (cellE s), some (.ref k), some (.ref a0), z4, z5, z6, z7] eh' := by
    rintro c s' rfl ⟨pb, po, pr⟩ hl more put d' hnx
    unfold bd_lengths_from_3
    walk_at "go"
    have el : (c :: s').reverse.map cellE = s'.reverse.map cellE ++ [cellE c] := by simp
    refine ix_i (x := .ref a0) (eh := eh') (xs := (c :: s').reverse.map cellE) (z := cellE c) (by simp only [seqE, ha]) (by rw [el]; exact at_last) ?_
    walk_at "go"
    refine ix_i (xs := [.str c.1, .tup (c.2.map .int)]) (z := .str c.1) rfl (by rfl) ?_
    walk_at "go"
    refine ix_i (xs := [.str c.1, .tup (c.2.map .int)]) (z := .tup (c.2.map .int)) rfl (by rfl) ?_
    walk_at "go"
    refine ⟨rfl, ?_⟩
    refine cellsF_fz rfl R po ?_
    walk_at "go"
    have nl := nextC_len R po
    refine comp_filter (c := cellE) (f := cellE) (p := fun d => decide (d ∉ kn')) trivial (by simp; omega) (fun d hd => asgx_i rfl ⟨fun qt hq => ?_, fun _ q2 hq2 => ?_⟩) ?_
    · walk_at "go"
      refine ⟨k, _, _, rfl, hk', keyN_cell d, cK_depth d, ?_⟩
      refine ⟨_, rfl, ?_⟩
      rw [show NestedKey.tup [.text d.1, .tup (d.2.map .num)] = cK d from rfl, getN_some]
      simpa using hq
    · walk_at "go"
      exact hq2
    show sIf _ _ _ xc d' _ _
    rw [List.nil_append]
    show sIf _ _ _ xc d' [some (sysE dims md rs), some (cellE s), some (.ref k), some (.ref a0), some (cellE c), some (.lst ((nextC rs c).map cellE)), some (.lst ((opnC (nextC rs) kn' c).map cellE)), z7] eh'
    have hnil := (opn_nil (nx := nextC rs) (kn := kn') (c := c)).mp
    have ocl : (opnC (nextC rs) kn' c).length ≤ 12 := Nat.le_trans (List.length_filter_le _ _) nl
    have evq := lenS_eq pr
    have kl : kn'.length ≤ bx.length := nodup_le nd' fun c hc => (hb' c hc).1
    simp only [List.length_cons] at hl
    have lp := fun z : opnC (nextC rs) kn' c = [] => LnI.put z li
    have lm := LnI.more li
    generalize opnC (nextC rs) kn' c = oc at *
    walk_at "go"
    refine neC_i rfl ?_
    refine ⟨_, rfl, ?_⟩
    by_cases ho : oc = []
    · rw [decide_eq_true ho]
      refine cF_i ?_
      walk_at "go"
      refine ⟨isLst_c ha, ?_⟩
      refine anil_i ?_
      refine ⟨s'.reverse.map cellE, cellE c, by rw [ha, el], ?_⟩
      have hk2 : eupd eh' a0 (some (.lst (s'.reverse.map cellE))) k = some (.dN (celD (fun c => .int (lenS (nextC rs) c)) kn')) := by rw [eupd_ne c3]; exact hk'
      refine dputN_i ?_
      walk_at "go"
      refine comp_map (c := cellE) (f := fun d => EV.int (lenS (nextC rs) d + 1)) trivial (by simp; omega) (fun d hd => asgx_i rfl fun q2 hq2 => ?_) ?_
      · unfold ce_lengths_from_2
        walk_at "go"
        refine ⟨k, _, _, .int (lenS (nextC rs) d), rfl, hk2, keyN_cell d, cK_depth d, ?_, ?_⟩
        · have := getN_cell (f := fun c => EV.int (lenS (nextC rs) c)) (c := d) (kn := kn')
          rw [if_pos (hnil ho d hd)] at this
          exact this
        walk_at "go"
        exact hq2
      rw [List.nil_append]
      walk_at "go"
      refine addF_i (us := (nextC rs c).map fun d => EV.int (lenS (nextC rs) d + 1)) (vs := [.int 0]) (szL (by simp; omega)) ?_
      have em : ((nextC rs c).map fun d => EV.int (lenS (nextC rs) d + 1)) ++ [.int 0] = ((nextC rs c).map (fun d => lenS (nextC rs) d + 1) ++ [0]).map .int := by rw [List.map_append, List.map_map]; rfl
      rw [em]
      walk_at "go"
      refine maxL_i (by simp) ?_
      rw [← evq]
      walk_at "go"
      refine ⟨k, _, _, rfl, hk2, keyN_cell c, cK_depth c, by simp only [celD, List.length_map]; omega, ?_⟩
      show d'.nx _ (eupd _ k (some (.dN (putN (celD (fun c => .int (lenS (nextC rs) c)) kn') (cK c) (EV.int (lenS (nextC rs) c))))))
      rw [celD_add (f := fun c => EV.int (lenS (nextC rs) c))]
      obtain ⟨m, rfl, G⟩ := put ho
      refine hnx m _ _ (by omega) ⟨s', addK kn' c, _, _, _, _, rfl, by rw [eupd_ne (Ne.symm c3), eupd_same], eupd_same, (kp.set a00).set hk0, lp ho, addK_nd nd', fun x hx => ?_, G⟩
      rcases addK_mem.mp hx with h | h
      · exact hb' x h
      · rw [h]; exact ⟨pb, po, pr⟩
    · rw [decide_eq_false ho]
      refine cT_i ?_
      walk_at "go"
      refine ⟨isLst_c ha, ?_⟩
      walk_at "go"
      refine ⟨_, _, ha, rfl, by simp; omega, ?_⟩
      obtain ⟨m, rfl, G⟩ := more ho
      refine hnx m _ _ (by omega) ⟨oc.reverse ++ c :: s', kn', _, _, _, _, rfl, by rw [eupd_same]; simp, by rw [eupd_ne c3]; exact hk', kp.set a00, lm, nd', hb', G⟩
  cases F with
  | done =>
    refine ⟨_, rfl, ?_⟩
    refine hq _ _ (fun h => ?_) fun _ => ?_
    · simp at h
    · walk_at "go"
      exact k0 _ _ k hF li nd' hb' kp hk0 hk'
  | more g1 g2 g3 g4 =>
    refine ⟨_, rfl, ?_⟩
    rw [decide_eq_false (by simp)]
    refine hq _ _ (fun _ d' _ hnx _ _ => fin _ _ rfl g2 g1 (fun _ => ⟨_, rfl, g4⟩) (fun z => absurd z g3) d' hnx) fun h => by cases h
  | put g1 g2 g3 g4 =>
    refine ⟨_, rfl, ?_⟩
    rw [decide_eq_false (by simp)]
    refine hq _ _ (fun _ d' _ hnx _ _ => fin _ _ rfl g2 g1 (fun z => absurd g3 z) (fun _ => ⟨_, rfl, g4⟩) d' hnx) fun h => by cases h
end

/-! ### a_longest_way: the walk -/
/-- a longest way so far -/
structure LwI (nx : Cel → List Cel) (s : Cel) (w : List Cel) : Prop where
  hd : w[0]? = some s
  rea : ∀ c ∈ w, Rea nx s c
  nxt : ∀ (i : Nat) (a b : Cel), w[i]? = some a → w[i + 1]? = some b → b ∈ nx a
  len : ∀ (i : Nat) (a : Cel), w[i]? = some a → lenS nx a = lenS nx s - i
section
variable {nx : Cel → List Cel} {s : Cel}
theorem LwI.one : LwI nx s [s] := by
  refine ⟨rfl, fun c hc => by rw [List.mem_singleton.mp hc]; exact .refl, fun i a b _ h => by simp at h, fun i a h => ?_⟩
  cases i with
  | zero => cases h; simp
  | succ i => simp at h
theorem LwI.snoc {w : List Cel} {c d : Cel} (h : LwI nx s (w ++ [c])) (hd : d ∈ nx c) (e : lenS nx d + 1 = lenS nx c) : LwI nx s (w ++ [c] ++ [d]) := by
  have hc : (w ++ [c])[w.length]? = some c := by simp
  have lc := h.len _ _ hc
  have old : ∀ {i : Nat} {a : Cel}, (w ++ [c] ++ [d])[i]? = some a → (w ++ [c])[i]? = some a ∨ (i = w.length + 1 ∧ a = d) := fun {i a} hi => by
    rcases Nat.lt_or_ge i (w.length + 1) with z | z
    · rw [List.getElem?_append_left (by simpa using z)] at hi; exact .inl hi
    · rw [List.getElem?_append_right (by simpa using z)] at hi
      obtain ⟨hi1, hi2⟩ := List.getElem?_eq_some_iff.mp hi
      simp only [List.length_append, List.length_cons, List.length_nil] at hi1 hi2
      exact .inr ⟨by omega, by simpa using hi2.symm⟩
  refine ⟨?_, fun x hx => ?_, fun i a b ha hb => ?_, fun i a ha => ?_⟩
  · rw [List.getElem?_append_left (by simp)]; exact h.hd
  · rcases List.mem_append.mp hx with hx | hx
    · exact h.rea x hx
    · rw [List.mem_singleton.mp hx]; exact .step (h.rea c (by simp)) hd
  · rcases old hb with hb | ⟨e1, rfl⟩
    · rcases old ha with ha | ⟨e2, _⟩
      · exact h.nxt i a b ha hb
      · obtain ⟨z, _⟩ := List.getElem?_eq_some_iff.mp hb
        simp at z; omega
    · have : i = w.length := by omega
      subst this
      rcases old ha with ha | ⟨e2, _⟩
      · rw [hc] at ha; cases ha; exact hd
      · omega
  · rcases old ha with ha | ⟨e1, rfl⟩
    · exact h.len i a ha
    · subst e1
      omega
theorem LwI.nd {w : List Cel} (h : LwI nx s w) : w.Nodup := by
  rw [List.nodup_iff_pairwise_ne, List.pairwise_iff_getElem]
  intro i j hi hj hij e
  have a1 := h.len i _ (List.getElem?_eq_getElem hi)
  have a2 := h.len j _ (List.getElem?_eq_getElem hj)
  rw [e] at a1
  omega
end
section
variable {dims md : Int} {rs : List Row} {s : Cel} {bx : List Cel} {B : Nat} {eh : Eh}
/-! ### needed: the walk -/
theorem evKs_num : ∀ l : List Int, evKs (l.map .num) = l.map .int
  | [] => rfl
  | n :: l => by show evK (.num n) :: evKs (l.map .num) = _; rw [evKs_num l]; rfl
theorem evK_kN (r : TL) : evK (kN r) = cellE (r.1, r.2.1) := by
  show EV.tup [.str r.1, .tup (evKs (r.2.1.map .num))] = _
  rw [evKs_num]; rfl
theorem kLD_tot : PySem.W.TotalLe (PySem.W.dataLe false kLD) := PySem.W.sortLe_total (PyProof.Rows.listOrd PyProof.Rows.itemOrd) false fun b : TL => PySem.W.keyToks (kLD b)
end

/-! ### systems written in the laws: a pair of tables -/
def prR : List Row := [⟨"a", 0, [⟨"a", [1, -1], 1⟩, ⟨"b", [0, 0], 1⟩]⟩, ⟨"b", 1, [⟨"b", [-1, 1], 1⟩, ⟨"a", [0, 1], 1⟩]⟩]
theorem pr_fit : SysFit 2 1000003 prR where
  d := by decide
  l := by decide
  nd := by decide
  r := fun r hr => by
    simp only [prR, List.mem_cons, List.not_mem_nil, or_false] at hr
    rcases hr with rfl | rfl
    · refine ⟨by decide +kernel, fun x hx => ?_⟩
      simp only [List.mem_cons, List.not_mem_nil, or_false] at hx
      rcases hx with rfl | rfl <;> exact ⟨by decide +kernel, by decide, by decide⟩
    · refine ⟨by decide +kernel, fun x hx => ?_⟩
      simp only [List.mem_cons, List.not_mem_nil, or_false] at hx
      rcases hx with rfl | rfl <;> exact ⟨by decide +kernel, by decide, by decide⟩
  t := by decide
  m := by decide
  tg := fun r hr x hx => by
    simp only [prR, List.mem_cons, List.not_mem_nil, or_false] at hr
    rcases hr with rfl | rfl
    · simp only [List.mem_cons, List.not_mem_nil, or_false] at hx
      rcases hx with rfl | rfl <;> decide
    · simp only [List.mem_cons, List.not_mem_nil, or_false] at hx
      rcases hx with rfl | rfl <;> decide
theorem pr_sort : sortR prR = prR := by
  refine List.Perm.eq_of_pairwise (le := fun r r' => PySem.W.dataLe false key0 (rowE r) (rowE r') = true) (fun a b ha hb h h' => ?_) (sortR_pw prR) (by decide +kernel) (sortR_perm prR)
  exact row_uniq (show (prR.map (·.w)).Nodup by decide) ((sortR_perm prR).mem_iff.mp ha) hb (rowLe_name h h')
theorem pr_sys : SysR 2 prR := by
  have := pr_fit.toR
  rw [pr_sort] at this
  exact this
theorem pr_sm : SmR 2 prR := ⟨pr_sys, .inr rfl, fun z => (by cases z), fun _ => ⟨by decide, by unfold VecM; decide +kernel⟩⟩
theorem rdy_rk {nx : Cel → List Cel} {K : List Cel} {rk : Cel → Nat} (h : ∀ c ∈ K, ∀ x ∈ nx c, x ∈ K ∧ rk x < rk c) : ∀ (n : Nat) (c : Cel), rk c ≤ n → c ∈ K → Rdy nx c
  | 0, c, hn, hc => Acc.intro c fun x hx => by have := (h c hc x hx).2; omega
  | n + 1, c, hn, hc => Acc.intro c fun x hx => by
    obtain ⟨h1, h2⟩ := h c hc x hx
    exact rdy_rk h n x (by omega) h1
/-- cells of the pair, those that are read first -/
def prK : List Cel := [(("b" : Str), [1, 0]), (("b" : Str), [0, 0]), (("a" : Str), [0, 0]), (("b" : Str), [0, 1]), (("a" : Str), [0, 1]), (("a" : Str), [1, 0])]
def prk (c : Cel) : Nat := prK.findIdx fun d => decide (d = c)
theorem pr_rk : ∀ c ∈ prK, ∀ x ∈ nextC prR c, x ∈ prK ∧ prk x < prk c := by decide +kernel
theorem pr_rdy {c : Cel} (hc : c ∈ prK) : Rdy (nextC prR) c := rdy_rk pr_rk _ c (Nat.le_refl _) hc

/-! ### the first of the longest ways -/
noncomputable def fstD (nx : Cel → List Cel) (c : Cel) : Option Cel := ((nx c).filter fun d => decide (lenS nx d + 1 = lenS nx c)).head?
def FsW (nx : Cel → List Cel) (w : List Cel) : Prop := ∀ (i : Nat) (a b : Cel), w[i]? = some a → w[i + 1]? = some b → fstD nx a = some b
theorem FsW.one {nx : Cel → List Cel} {s : Cel} : FsW nx [s] := fun i a b _ h => by simp at h
theorem FsW.snoc {nx : Cel → List Cel} {w : List Cel} {c d : Cel} (h : FsW nx (w ++ [c])) (hd : fstD nx c = some d) : FsW nx (w ++ [c] ++ [d]) := fun i a b ha hb => by
  have hb1 := (List.getElem?_eq_some_iff.mp hb).1
  simp only [List.length_append, List.length_cons, List.length_nil] at hb1
  rw [List.getElem?_append_left (by simp; omega)] at ha
  by_cases hi : i + 1 < w.length + 1
  · rw [List.getElem?_append_left (by simpa using hi)] at hb
    exact h i a b ha hb
  · have e : i = w.length := by omega
    subst e
    have ea : a = c := by simpa using ha.symm
    rw [List.getElem?_append_right (by simp)] at hb
    have eb : b = d := by simpa using hb.symm
    rw [ea, eb]; exact hd
section
variable {dims md : Int} {rs : List Row} {s : Cel} {bx : List Cel} {B : Nat} {eh : Eh}
end
/-! ### the lengths of the law's own search are the greatest lengths -/
theorem Len.isLen {rs : List Row} {b : Cel} {lk : List Cel} {lv : Cel → Int} (L : Len rs b lk lv) : ∀ c ∈ lk, lv c = lenS (nextC rs) c := fun c hc => by
  have rd : Rdy (nextC rs) c := by
    rcases L.rc c hc with rfl | h
    · exact L.rd
    · exact rdy_path L.rd h
  induction rd with
  | intro c hcc ih =>
    have r1 : Rdy (nextC rs) c := .intro c hcc
    obtain ⟨I, _, hI, e⟩ := L.lv c hc
    have iff : ∀ m : Int, lv c ≤ m ↔ 0 ≤ m ∧ ∀ d ∈ nextC rs c, lenS (nextC rs) d + 1 ≤ m := fun m => by
      rw [e]
      by_cases hn : I = []
      · rw [if_pos hn]
        have : nextC rs c = [] := by
          cases z : nextC rs c with
          | nil => rfl
          | cons d l => have := (hI d).mpr (by rw [z]; simp); rw [hn] at this; cases this
        rw [this]; simp
      · rw [if_neg hn]
        obtain ⟨d0, hd0⟩ := List.exists_mem_of_ne_nil I hn
        have n0 := lenS_nn (rdy_next r1 ((hI d0).mp hd0))
        have el : ∀ d ∈ nextC rs c, lv d = lenS (nextC rs) d := fun d hd => ih d hd (L.cl c hc d hd)
        have key : mxI (I.map lv) ≤ m - 1 ↔ ∀ y ∈ I.map lv, y ≤ m - 1 := mx_le (by simpa using hn)
        constructor
        · intro h
          have k2 := key.mp (by omega)
          have g : ∀ d ∈ nextC rs c, lenS (nextC rs) d + 1 ≤ m := fun d hd => by
            have := k2 (lv d) (List.mem_map.mpr ⟨d, (hI d).mpr hd, rfl⟩)
            rw [el d hd] at this; omega
          have := g d0 ((hI d0).mp hd0)
          exact ⟨by omega, g⟩
        · rintro ⟨_, g⟩
          have := key.mpr fun y hy => by
            obtain ⟨d, hd, rfl⟩ := List.mem_map.mp hy
            have hd := (hI d).mp hd
            rw [el d hd]
            have := g d hd
            omega
          omega
    have h1 := (iff (lv c)).mp (Int.le_refl _)
    have h2 := (lenS_le r1).mp (Int.le_refl (lenS (nextC rs) c))
    have a1 := (lenS_le r1).mpr h1
    have a2 := (iff _).mpr h2
    omega
theorem Len.rea {rs : List Row} {b : Cel} {lk : List Cel} {lv : Cel → Int} (L : Len rs b lk lv) {c : Cel} (h : Rea (nextC rs) b c) : c ∈ lk := by
  induction h with
  | refl => exact L.hb
  | step _ h2 ih => exact L.cl _ ih _ h2

/-! ### needed: the list itself -/
theorem perm_nd {l m : List Cel} (hl : l.Nodup) (hm : m.Nodup) (h : ∀ x, x ∈ l ↔ x ∈ m) : l.Perm m := by
  rw [List.perm_iff_count]
  intro a
  rw [hl.count, hm.count]
  simp only [h a]
theorem str_le' {a b : Str} (h : ¬ b.cps.toList < a.cps.toList) (h' : ¬ a.cps.toList < b.cps.toList) : a = b := str_ext (List.le_antisymm (as := a.cps.toList) (bs := b.cps.toList) h h')
theorem tk_ints : ∀ {a b : List Int} {r r' : List (Int ⊕ List Nat)}, PySem.W.keyToksAll (a.map .int) ++ r = PySem.W.keyToksAll (b.map .int) ++ r' → a = b
  | [], [], _, _, _ => rfl
  | [], j :: b, _, _, h => by
    have h : Sum.inl (0 : Int) :: _ = Sum.inl (1 : Int) :: _ := h
    simp at h
  | i :: a, [], _, _, h => by
    have h : Sum.inl (1 : Int) :: _ = Sum.inl (0 : Int) :: _ := h
    simp at h
  | i :: a, j :: b, r, r', h => by
    have h : Sum.inl (1 : Int) :: Sum.inl i :: (PySem.W.keyToksAll (a.map .int) ++ r) = Sum.inl (1 : Int) :: Sum.inl j :: (PySem.W.keyToksAll (b.map .int) ++ r') := h
    injection h with _ h
    injection h with h1 h2
    rw [Sum.inl.inj h1, tk_ints h2]
theorem kLD_inj {c c' : TL} (h : PySem.W.keyToks (kLD c) = PySem.W.keyToks (kLD c')) : c = c' := by
  have h : Sum.inl (1 : Int) :: Sum.inl c.2.2 :: Sum.inl (1 : Int) :: Sum.inr c.1.cps.toList :: Sum.inl (1 : Int) :: (PySem.W.keyToksAll (c.2.1.map .int) ++ [Sum.inl 0]) = Sum.inl (1 : Int) :: Sum.inl c'.2.2 :: Sum.inl (1 : Int) :: Sum.inr c'.1.cps.toList :: Sum.inl (1 : Int) :: (PySem.W.keyToksAll (c'.2.1.map .int) ++ [Sum.inl 0]) := h
  injection h with _ h
  injection h with h0 h
  injection h with _ h
  injection h with h1 h
  injection h with _ h
  have e0 : c.2.2 = c'.2.2 := Sum.inl.inj h0
  have e1 : c.1.cps.toList = c'.1.cps.toList := Sum.inr.inj h1
  have e2 := tk_ints h
  have e3 : c.1 = c'.1 := str_le' (by rw [e1]; exact List.lt_irrefl _) (by rw [e1]; exact List.lt_irrefl _)
  exact Prod.ext e3 (Prod.ext e2 e0)
theorem sortL_eq {L M : List TL} (h : L.Perm M) : sortL L = sortL M := by
  refine List.Perm.eq_of_pairwise (le := fun x y : TL => PySem.W.dataLe false kLD x y = true) (fun a b _ _ h1 h2 => ?_) (PySem.W.sort_pairwise kLD_tot L) (PySem.W.sort_pairwise kLD_tot M) (((List.mergeSort_perm _ _).trans h).trans (List.mergeSort_perm _ _).symm)
  refine kLD_inj ?_
  unfold PySem.W.dataLe PySem.W.sortLe at h1 h2
  simp only [cond_false, Bool.not_eq_true'] at h1 h2
  exact ((PyProof.Rows.listOrd PyProof.Rows.itemOrd).total _ _ h1 h2).symm
noncomputable def srtN (nx : Cel → List Cel) (K : List Cel) : List Cel := (sortL (K.map fun c => ((c.1, c.2, lenS nx c) : TL))).map fun r => ((r.1, r.2.1) : Cel)
theorem srtN_eq {nx : Cel → List Cel} {K K' : List Cel} (h : K.Perm K') : srtN nx K = srtN nx K' := by
  unfold srtN
  rw [sortL_eq (h.map _)]
section
variable {dims md : Int} {rs : List Row} {s : Cel} {bx : List Cel} {B : Nat} {eh : Eh}
theorem needed_ez {xc : XC} {q : KE} (R : SysR dims rs) (hs : cellOk dims rs s = true) (L : Lim (nextC rs) s bx B) (hr : Rdy (nextC rs) s) (hB : 12 * B + 30 ≤ sizeLine) (hbx : bx.length + 10 ≤ sizeLine)
    (k : ∀ K o eh', K.Nodup → (∀ c, c ∈ K ↔ Rea (nextC rs) s c) → eh o = none → eh' o = some (.lst ((srtN (nextC rs) K).map cellE)) → Kp eh eh' → q (.ref o) eh') : ([sysE dims md rs, cellE s] ++ []).length = 2 ∧ fn_needed xc ([sysE dims md rs, cellE s] ++ []) eh q := by
  refine ⟨rfl, ?_⟩
  unfold fn_needed ms_needed
  walk_at "go"
  refine checkready_fz rfl R hs L (by omega) hbx hr ?_
  walk_at "go"
  refine ⟨rfl, ?_⟩
  refine lengths_ok R hs L hr hB hbx fun kn' eh' p h1 li h2 h3 kp p0 hp => ?_
  walk_at "go"
  unfold mSortLR
  walk_at "go"
  have eD : celD (fun c => EV.int (lenS (nextC rs) c)) kn' = (kn'.map fun c => ((c.1, c.2, lenS (nextC rs) c) : TL)).map rwL := by unfold celD; rw [List.map_map]; rfl
  refine ⟨p, kn'.map fun c => (c.1, c.2, lenS (nextC rs) c), rfl, by rw [← eD]; exact hp, rfl, fun r hr => ?_, fun o ho => ?_⟩
  · obtain ⟨c, hc, rfl⟩ := List.mem_map.mp hr
    rw [← eD]
    have := getN_cell (f := fun c => EV.int (lenS (nextC rs) c)) (c := c) (kn := kn')
    rw [if_pos hc] at this
    exact this
  have ev : (sortL (kn'.map fun c => ((c.1, c.2, lenS (nextC rs) c) : TL))).map (fun r => evK (kN r)) = (srtN (nextC rs) kn').map cellE := by
    unfold srtN
    rw [List.map_map]; exact List.map_congr_left fun r _ => evK_kN r
  rw [ev]
  have o0 := kp_none kp ho
  exact k kn' o _ h2 (fun c => li.iff h1) o0 eupd_same (kp.set o0)
end
/-! ### the law's own list -/
def fTL (r : TL) : EV := .tup [.int r.2.2, .str r.1, .tup (r.2.1.map .int)]
theorem D_fTL (r : TL) : D (fTL r) = kLD r := by
  have e : ∀ l : List Int, DL (l.map .int) = l.map .int := fun l => by
    induction l with
    | nil => rfl
    | cons i l ih => simp only [List.map_cons, DL, D, ih]
  show PyData.tuple [.int r.2.2, .str r.1, .tuple (DL (r.2.1.map .int))] = _
  rw [e]
theorem okD_fTL (r : TL) : okD 3 (fTL r) = true := by
  have : okD 2 (.tup (r.2.1.map .int)) = true := okD_tup (n := 1) fun n _ => rfl
  show (okD 2 (.int r.2.2) && (okD 2 (.str r.1) && (okD 2 (.tup (r.2.1.map .int)) && true))) = true
  rw [this]; rfl
theorem sortT_fTL {L : List TL} {eh : Eh} {q : KE} (k : q (.lst ((sortL L).map fTL)) eh) : bSortT [.lst (L.map fTL)] eh q := by
  have es : sortT (L.map fTL) = (sortL L).map fTL := by
    unfold sortT sortL
    refine (PySem.W.sort_maps (r := PySem.W.dataLe false kLD) (s := PySem.W.dataLe false D) fTL fun a _ b _ => ?_).symm
    show (!(PyProof.Rows.listOrd PyProof.Rows.itemOrd).blt (PySem.W.keyToks (kLD b)) (PySem.W.keyToks (kLD a))) = (!(PyProof.Rows.listOrd PyProof.Rows.itemOrd).blt (PySem.W.keyToks (D (fTL b))) (PySem.W.keyToks (D (fTL a))))
    rw [D_fTL, D_fTL]
  refine ⟨_, L.map fTL, rfl, rfl, List.all_eq_true.mpr fun y hy => ?_, ?_, ?_, fun y hy => ?_, by rw [es]; exact k⟩
  · obtain ⟨c, _, rfl⟩ := List.mem_map.mp hy
    exact (DOk.of (okB_of (okD_fTL c))).d
  · rw [List.map_map]; exact PySem.W.AllAlike.of fun a b => by
      show PySem.W.alike (D (fTL a)) (D (fTL b)) = true
      rw [D_fTL, D_fTL]
      simp only [kLD, PySem.W.alike, PySem.W.alikeAll, PySem.W.alike_ints, Bool.and_self]
  · rw [List.map_map]; exact PySem.W.Sortable.tuples fun c => ⟨_, _, D_fTL c⟩
  · obtain ⟨c, _, rfl⟩ := List.mem_map.mp hy
    exact Nat.le_trans (DOk.of (okB_of (okD_fTL c))).z (by decide)
theorem Len.reaI {rs : List Row} {b : Cel} {lk : List Cel} {lv : Cel → Int} (L : Len rs b lk lv) (c : Cel) : c ∈ lk ↔ Rea (nextC rs) b c := by
  constructor
  · intro hc
    have key : ∀ {a d : Cel}, Pth (nextC rs) d a → Rea (nextC rs) a d := fun {a d} h => by
      induction h with
      | one h1 => exact .step .refl h1
      | step h1 _ ih => exact (Rea.step .refl h1).trans ih
    rcases L.rc c hc with rfl | h
    · exact .refl
    · exact key h
  · exact L.rea

/-! ### k12: the law's list, turns, laps -/
theorem eqe_n {neg e : Bool} {x y : EV} {eh : Eh} {q : KE} (hx : (x = .non ∧ e = false) ∨ dnZ eh x e) (hy : dctE eh y = some []) (k : q (.bl (neg ^^ e)) eh) : cEqE0 neg x y eh q := .inl ⟨e, hx, hy, k⟩
theorem dct_newn {eh : Eh} {p : Addr} : dctE (eupd eh p (some (.dct []))) (.ref p) = some [] := by simp only [dctE, eupd_same]
theorem isnD_n {xs : List (NestedKey × EV)} {b : Bool} {eh : Eh} {q : KE} (k : q (.bl b) eh) : cIsN b (.dn xs) .non eh q := by cases b <;> exact k
section
variable {S : Addr → Bool} {xc : XC} {dims md : Int} {rs : List Row} {s : Cel} {eh : Eh} {q : KE}
theorem needed_sm (h : SmR dims rs) (hs : cellOk dims rs s = true) (hp : InP dims s.2) (hr : Rdy (nextC rs) s) (k : ∀ K o eh', K.Nodup → (∀ c, c ∈ K ↔ Rea (nextC rs) s c) → eh o = none → eh' o = some (.lst ((srtN (nextC rs) K).map cellE)) → Kp eh eh' → q (.ref o) eh') :
    ([sysE dims md rs, cellE s] ++ []).length = 2 ∧ fn_needed xc ([sysE dims md rs, cellE s] ++ []) eh q :=
  needed_ez h.R hs (h.lim hs hp) hr (bd15 dims) h.bx k
theorem needed_smf (hS : S = nw eh) (h : SmR dims rs) (hs : cellOk dims rs s = true) (hp : InP dims s.2) (hr : Rdy (nextC rs) s) (k : ∀ K, K.Nodup → (∀ c, c ∈ K ↔ Rea (nextC rs) s c) → q (.lst ((srtN (nextC rs) K).map cellE)) eh) :
    ([sysE dims md rs, cellE s] ++ []).length = 2 ∧ FZ S fn_needed xc ([sysE dims md rs, cellE s] ++ []) eh q := by
  subst hS
  refine needed_ez h.R hs (h.lim hs hp) hr (bd15 dims) h.bx fun K o eh' h1 h2 h3 h4 h5 => ?_
  exact fin_list (n := 3) h5 h3 h4 (okB_of (okD_cells _)) (k K h1 h2)
end
theorem due12_i {rs : List Row} {b : Cel} {lk : List Cel} {lv : Cel → Int} {eh : Eh} {q : KE} {z0 z1 z2 z3 z4 z6 z7 z8 z9 z10 z12 : Option EV} (Ln : Len rs b lk lv) (k : q (.lst ((srtN (nextC rs) lk).map cellE)) eh) :
    (mComp (iAny (mCB bSortT (aCons (mComp (iKeysN (mVar 5)) (.nm 13) tYesE ce_law_1 [13]) aNil))) (.nm 11) tYesE ce_law_2 [11]) xF [z0, z1, z2, z3, z4, some (.dn (celD (nmE lv) lk)), z6, z7, z8, z9, z10, none, z12, none] eh q := by
  have ll := Ln.ln
  walk_at "go"
  refine keysN_i ?_
  walk_at "go"
  refine ⟨_, rfl, ?_⟩
  rw [keys_cel]
  refine comp_map (c := cellE) (f := fun c => fTL (c.1, c.2, lenS (nextC rs) c)) trivial (by rw [List.length_nil, Nat.zero_add]; exact Nat.le_trans ll (by decide)) (fun c hc => asgx_i rfl fun q' hq' => ?_) ?_
  · unfold ce_law_1
    walk_at "go"
    refine ⟨_, _, nmE lv c, rfl, keyN_cell c, cK_depth c, getN_c (f := nmE lv) hc, ?_⟩
    rw [show nmE lv c = .int (lenS (nextC rs) c) by show EV.int (lv c) = _; rw [Ln.isLen c hc]]
    walk_at "go"
    refine ix_i (xs := [.str c.1, .tup (c.2.map .int)]) (z := .str c.1) rfl (by rfl) ?_
    walk_at "go"
    refine ix_i (xs := [.str c.1, .tup (c.2.map .int)]) (z := .tup (c.2.map .int)) rfl (by rfl) ?_
    walk_at "go"
    exact hq'
  rw [List.nil_append, show (lk.map fun c => fTL (c.1, c.2, lenS (nextC rs) c)) = (lk.map fun c => ((c.1, c.2, lenS (nextC rs) c) : TL)).map fTL by rw [List.map_map]; rfl]
  walk_at "go"
  refine sortT_fTL ?_
  walk_at "go"
  have sl : (sortL (lk.map fun c => ((c.1, c.2, lenS (nextC rs) c) : TL))).length ≤ 1500 := by
    unfold sortL
    rw [(List.mergeSort_perm _ _).length_eq, List.length_map]; exact ll
  refine comp_map (c := fTL) (f := fun r => cellE (r.1, r.2.1)) trivial (by rw [List.length_nil, Nat.zero_add]; exact Nat.le_trans sl (by decide)) (fun r hr => asgx_i rfl fun q' hq' => ?_) ?_
  · unfold ce_law_2
    walk_at "go"
    refine slT_i (L := [.int r.2.2, .str r.1, .tup (r.2.1.map .int)]) ?_
    exact hq'
  rw [List.nil_append]
  have : (srtN (nextC rs) lk).map cellE = (sortL (lk.map fun c => ((c.1, c.2, lenS (nextC rs) c) : TL))).map fun r => cellE (r.1, r.2.1) := by
    unfold srtN
    rw [List.map_map]; rfl
  rw [← this]
  exact k
theorem told12 {d : Dn} {p : Addr} {w : List Cel} {eh : Eh} {z0 z1 z2 z3 z4 z5 z7 z8 z9 z10 : Option EV} (hp : eh p = some (.lst (w.map cellE))) (hl : w.length ≤ 2000)
    (k : d.nx [z0, z1, z2, z3, z4, z5, some (.lst (w.map cellE)), z7, z8, z9, z10, none, some (.ref p), none] (eupd eh p (some (.lst (w.map cellE ++ [.non]))))) :
    bd_law_3 xF d [z0, z1, z2, z3, z4, z5, some (.lst (w.map cellE)), z7, z8, z9, z10, none, some (.ref p), none] eh := by
  unfold bd_law_3
  walk_at "go"
  refine eqS_same (n := 3) (x' := .lst (w.map cellE)) (fro_ref hp) rfl (okB_of (okD_cells _)) (by decide) ?_
  refine ⟨_, rfl, ?_⟩
  refine cF_i ?_
  walk_at "go"
  refine ⟨isLst_c hp, ?_⟩
  walk_at "go"
  exact ⟨_, hp, szT (by rw [List.length_map]; omega), k⟩
theorem turn12 {d : Dn} {a : Addr} {s : Int × Int × Int} {b : Int} {dims : Int} {rows : List Row} {eh : Eh} {z0 z2 z4 z5 z6 z7 z10 z12 : Option EV} (ha : eh a = some (rgO s)) (hs : RgOk b s) (hb : b + 300 ≤ 800000000) (F : SmF dims rows)
    (k : ∀ (s' : Int × Int × Int) (eh' : Eh) (z4 z5 z6 z10 z12 : Option EV), RgOk (b + 50) s' → eh' a = some (rgO s') → d.nx [z0, some (.ref a), z2, some (.lst (rows.map rowE)), z4, z5, z6, z7, some (.int dims), some (sysE dims 1000003 (sortR rows)), z10, none, z12, none] eh') :
    bd_law_4 xF d [z0, some (.ref a), z2, some (.lst (rows.map rowE)), z4, z5, z6, z7, some (.int dims), some (sysE dims 1000003 (sortR rows)), z10, none, z12, none] eh := by
  have Sm := F.sm
  have fit := F.fit 1000003 (by decide)
  unfold bd_law_4
  refine seq_i ?_
  refine set_i ?_
  refine here_i (md := 1000003) ha hs (by omega) F (by decide) rfl rfl rfl rfl fun c s1 hc inp hs1 => ?_
  walk_at "go"
  refine lengths_fz (b := c) rfl fit hc (fun hn => ?_) (fun _ => ?_) fun lk lv Ln => ?_
  · walk_at "go"
    refine isnN2 ?_
    refine ⟨_, rfl, ?_⟩
    refine cF_i ?_
    walk_at "go"
    exact k s1 _ _ _ _ _ _ (hs1.mono (by omega)) eupd_same
  · walk_at "go"
    refine isnD_n ?_
    refine ⟨_, rfl, ?_⟩
    rw [cond_true]
    walk_at "go"
    intro p hp
    have pa : p ≠ a := fun z => by rw [z, eupd_same] at hp; cases hp
    walk_at "go"
    refine eqe_n (e := true) (.inr ⟨[], .inr rfl, rfl⟩) dct_newn ?_
    refine ⟨_, rfl, ?_⟩
    refine cF_i ?_
    walk_at "go"
    refine k s1 _ _ _ _ _ _ (hs1.mono (by omega)) ?_
    rw [eupd_ne pa.symm, eupd_same]
  · have hne : (celD (nmE lv) lk).length ≠ 0 := fun z => by
      have := Ln.hb
      unfold celD at z
      rw [List.length_map] at z
      rw [List.length_eq_zero_iff.mp z] at this; cases this
    walk_at "go"
    refine isnD_n ?_
    refine ⟨_, rfl, ?_⟩
    rw [cond_true]
    walk_at "go"
    intro p hp
    have pa : p ≠ a := fun z => by rw [z, eupd_same] at hp; cases hp
    walk_at "go"
    refine eqe_n (e := false) (.inr ⟨_, .inr rfl, (decide_eq_false hne).symm⟩) dct_newn ?_
    refine ⟨_, rfl, ?_⟩
    refine cT_i ?_
    have ha2 : (eupd (eupd eh a (some (rgO s1))) p (some (.dct []))) a = some (rgO s1) := by rw [eupd_ne pa.symm, eupd_same]
    generalize eupd (eupd eh a (some (rgO s1))) p (some (.dct [])) = eh2 at ha2
    refine seq_i ?_
    refine set_i ?_
    refine due12_i Ln ?_
    have wl2 : (srtN (nextC (sortR rows)) lk).length ≤ 2000 := by
      unfold srtN sortL
      rw [List.length_map, (List.mergeSort_perm _ _).length_eq, List.length_map]
      have := Ln.ln; omega
    have pk : ∀ K : List Cel, K.Nodup → (∀ x, x ∈ K ↔ Rea (nextC (sortR rows)) c x) → srtN (nextC (sortR rows)) K = srtN (nextC (sortR rows)) lk := fun K h1 h2 => srtN_eq (perm_nd h1 Ln.nd fun x => by rw [h2, Ln.reaI])
    generalize srtN (nextC (sortR rows)) lk = W at wl2 pk
    walk_at "go"
    refine needed_sm (s := c) Sm hc inp Ln.rd fun K1 p1 eh3 V1 V2 n1 e1 kp1 => ?_
    rw [pk K1 V1 V2] at e1
    walk_at "go"
    refine ⟨rfl, rfl, rfl, ?_⟩
    refine (needed_sm (s := c) Sm hc inp Ln.rd fun K2 p2 eh4 V3 V4 n2 e2 kp2 => ?_).2
    rw [pk K2 V3 V4] at e2
    walk_at "go"
    have ea3 : eh3 a = some (rgO s1) := by rw [kp1 a (by rw [ha2]; simp), ha2]
    have ea4 : eh4 a = some (rgO s1) := by rw [kp2 a (by rw [ea3]; simp), ea3]
    have e14 : eh4 p1 = some (.lst (W.map cellE)) := by rw [kp2 p1 (by rw [e1]; simp), e1]
    have p12 : p2 ≠ p1 := fun z => by rw [z, e1] at n2; cases n2
    have p1a : a ≠ p1 := fun z => by rw [← z, ha2] at n1; cases n1
    have p2a : a ≠ p2 := fun z => by rw [← z, ea3] at n2; cases n2
    refine forL_cons trivial rfl ?_
    refine told12 e14 wl2 ?_
    dsimp only
    refine forL_cons trivial rfl ?_
    refine told12 (by rw [eupd_ne p12]; exact e2) wl2 ?_
    dsimp only
    refine forL_nil trivial ?_
    walk_at "go"
    refine needed_smf (s := c) rfl Sm hc inp Ln.rd fun K3 V5 V6 => ?_
    rw [pk K3 V5 V6]
    walk_at "go"
    refine eqS_same (n := 3) (x' := .lst (W.map cellE)) rfl rfl (okB_of (okD_cells _)) (by decide) ?_
    refine ⟨_, rfl, ?_⟩
    refine cF_i ?_
    walk_at "go"
    refine k s1 _ _ _ _ _ _ (hs1.mono (by omega)) ?_
    rw [eupd_ne p2a, eupd_ne p1a]; exact ea4
theorem lap12 {d : Dn} {a : Addr} {s : Int × Int × Int} {b : Int} {i : Nat} {eh : Eh} {z0 z3 z4 z5 z6 z7 z8 z9 z10 z12 : Option EV} (ha : eh a = some (rgO s)) (hs : RgOk b s) (hb : b + 5000 ≤ 800000000)
    (k : ∀ (s' : Int × Int × Int) (eh' : Eh) (z3 z4 z5 z6 z8 z9 z10 z12 : Option EV), RgOk (b + 3000) s' → eh' a = some (rgO s') → d.nx [z0, some (.ref a), some (.int (i : Int)), z3, z4, z5, z6, z7, z8, z9, z10, none, z12, none] eh') :
    bd_law_5 xF d [z0, some (.ref a), some (.int (i : Int)), z3, z4, z5, z6, z7, z8, z9, z10, none, z12, none] eh := by
  unfold bd_law_5
  walk_at "go"
  refine small_fz rfl ha hs (by omega) fun dims rows s1 F hs1 => ?_
  refine ⟨_, rfl, ?_⟩
  walk_at "go"
  refine ⟨rfl, ?_⟩
  refine init_mz rfl (F.fit _ (by decide)) ?_
  walk_at "go"
  have base : eupd eh a (some (rgO s1)) a = some (rgO s1) := eupd_same
  generalize eupd eh a (some (rgO s1)) = eh2 at base
  refine ⟨_, rfl, by decide, ?_⟩
  refine for_inv (c := fun i : Nat => EV.int (i : Int)) (fun L2 es eh3 => ∃ (s2 : Int × Int × Int) (z4 z5 z6 z10 z12 : Option EV) (c2 : Int), c2 + 100 * L2.length ≤ b + 2700 ∧ eh3 a = some (rgO s2) ∧ RgOk c2 s2 ∧ es = [z0, some (.ref a), some (.int (i : Nat)), some (.lst (rows.map rowE)), z4, z5, z6, z7, some (.int dims), some (sysE dims 1000003 (sortR rows)), z10, none, z12, none]) ⟨s1, _, _, _, _, _, b + 2100, by simp; omega, base, hs1, rfl⟩ ?_ ?_
  · rintro i2 L2 es eh3 ⟨s2, z4, z5, z6, z10, z12, c2, hc2, ha2, hs2, rfl⟩
    simp only [List.length_cons] at hc2
    refine ⟨trivial, _, rfl, fun d2 hrt2 hnx2 _ _ => ?_⟩
    exact turn12 ha2 hs2 (by omega) F fun s3 eh4 z4 z5 z6 z10 z12 hs3 ha4 => hnx2 _ _ ⟨s3, _, _, _, _, _, c2 + 50, by omega, ha4, hs3, rfl⟩
  · rintro es eh3 ⟨s2, z4, z5, z6, z10, z12, c2, hc2, ha2, hs2, rfl⟩
    simp only [List.length_nil] at hc2
    refine ⟨trivial, ?_⟩
    exact k s2 _ _ _ _ _ _ _ _ _ (hs2.mono (by omega)) ha2

/-! ### k12: the law -/
theorem len_tab2 {nx : Cel → List Cel} {K : List Cel} {rk : Cel → Nat} {tb : Cel → Int} (h : ∀ c ∈ K, ∀ x ∈ nx c, x ∈ K ∧ rk x < rk c) (hv : ∀ c ∈ K, mxI ((nx c).map (fun d => tb d + 1) ++ [0]) = tb c) : ∀ (n : Nat) (c : Cel), rk c ≤ n → c ∈ K → lenS nx c = tb c := fun n => by
  induction n using Nat.strongRecOn with
  | ind n ih =>
    intro c hn hc
    rw [lenS_eq (rdy_rk h _ c (Nat.le_refl _) hc), ← hv c hc]
    congr 2
    refine List.map_congr_left fun d hd => ?_
    obtain ⟨h1, h2⟩ := h c hc d hd
    rw [ih (rk d) (by omega) d (Nat.le_refl _) h1]
def prL2 (c : Cel) : Int := (([0, 0, 1, 2, 3, 4] : List Int)[prk c]?).getD 0
theorem pr_len2 {c : Cel} (hc : c ∈ prK) : lenS (nextC prR) c = prL2 c := len_tab2 pr_rk (by decide +kernel) _ c (Nat.le_refl _) hc
theorem sortL_is {L M : List TL} (hp : M.Perm L) (pw : M.Pairwise fun x y => PySem.W.dataLe false kLD x y = true) : sortL L = M := by
  refine List.Perm.eq_of_pairwise (le := fun x y : TL => PySem.W.dataLe false kLD x y = true) (fun a b _ _ h1 h2 => ?_) (PySem.W.sort_pairwise kLD_tot L) pw ((List.mergeSort_perm _ _).trans hp.symm)
  refine kLD_inj ?_
  unfold PySem.W.dataLe PySem.W.sortLe at h1 h2
  simp only [cond_false, Bool.not_eq_true'] at h1 h2
  exact ((PyProof.Rows.listOrd PyProof.Rows.itemOrd).total _ _ h1 h2).symm
def prN : List Cel := [(("b" : Str), [0, 0]), (("b" : Str), [1, 0]), (("a" : Str), [0, 0]), (("b" : Str), [0, 1])]
theorem prN_rea (c : Cel) : c ∈ prN ↔ Rea (nextC prR) (("b" : Str), [0, 1]) c := by
  constructor
  · intro hc
    have r1 : Rea (nextC prR) (("b" : Str), [0, 1]) (("b" : Str), [0, 1]) := .refl
    have r2 : Rea (nextC prR) (("b" : Str), [0, 1]) (("a" : Str), [0, 0]) := .step r1 (by decide +kernel)
    have r3 : Rea (nextC prR) (("b" : Str), [0, 1]) (("b" : Str), [1, 0]) := .step r1 (by decide +kernel)
    have r4 : Rea (nextC prR) (("b" : Str), [0, 1]) (("b" : Str), [0, 0]) := .step r2 (by decide +kernel)
    simp only [prN, List.mem_cons, List.not_mem_nil, or_false] at hc
    rcases hc with rfl | rfl | rfl | rfl <;> assumption
  · intro h
    have cl : ∀ c ∈ prN, ∀ d ∈ nextC prR c, d ∈ prN := by decide +kernel
    induction h with
    | refl => decide +kernel
    | step _ h2 ih => exact cl _ ih _ h2
theorem prN_srt {K : List Cel} (h1 : K.Nodup) (h2 : ∀ c, c ∈ K ↔ Rea (nextC prR) (("b" : Str), [0, 1]) c) : srtN (nextC prR) K = prN := by
  rw [srtN_eq (perm_nd h1 (show prN.Nodup by decide +kernel) fun c => by rw [h2, prN_rea])]
  have e : (prN.map fun c => ((c.1, c.2, lenS (nextC prR) c) : TL)) = prN.map fun c => ((c.1, c.2, prL2 c) : TL) := by
    refine List.map_congr_left fun c hc => ?_
    have : ∀ c ∈ prN, c ∈ prK := by decide +kernel
    rw [pr_len2 (this c hc)]
  unfold srtN
  rw [e, sortL_is (M := prN.map fun c => ((c.1, c.2, prL2 c) : TL)) (List.Perm.refl _) (by decide +kernel), List.map_map]
  exact List.map_id'' (fun c => rfl) prN
theorem law_pure (ns : List Int) (hl : ns.length ≤ 63) (hb : ∀ z ∈ ns, Builtin.Int.intBits z ≤ 1048576) : fn_law xF [.scr ns] (fun _ => none) fun x _ => x = .bl true := by
  unfold fn_law ms_law
  walk_at "go"
  refine ⟨rfl, ?_⟩
  refine rng_ok hl hb fun a s _ hs => ?_
  walk_at "go"
  refine len_i (xs := ns.map .int) rfl ?_
  rw [List.length_map]
  walk_at "go"
  refine ⟨_, rfl, by split <;> omega, ?_⟩
  generalize hN : (8 + if ((ns.length : Nat) : Int) < 10 then ((ns.length : Nat) : Int) else 10 : Int).toNat = N
  have hN24 : N ≤ 18 := by rw [← hN]; split <;> omega
  refine for_inv (c := fun i : Nat => EV.int (i : Int)) (fun L es eh' => ∃ (s' : Int × Int × Int) (z2 z3 z4 z5 z6 z8 z9 z10 z12 : Option EV) (c : Int), c + 4000 * L.length ≤ 4000 * 18 ∧ eh' a = some (rgO s') ∧ RgOk c s' ∧ es = [some (.scr ns), some (.ref a), z2, z3, z4, z5, z6, none, z8, z9, z10, none, z12, none]) ?_ ?_ ?_
  · exact ⟨s, _, _, _, _, _, _, _, _, _, 0, by simp; omega, eupd_same, hs, rfl⟩
  · rintro i L es eh1 ⟨s', z2, z3, z4, z5, z6, z8, z9, z10, z12, c, hc, ha, hs', rfl⟩
    simp only [List.length_cons] at hc
    refine ⟨trivial, _, rfl, fun d' hrt hnx _ _ => ?_⟩
    exact lap12 ha hs' (by omega) fun s2 eh2 z3 z4 z5 z6 z8 z9 z10 z12 hs2 ha2 => hnx _ _ ⟨s2, _, _, _, _, _, _, _, _, _, c + 3000, by omega, ha2, hs2, rfl⟩
  · rintro es eh1 ⟨s', z2, z3, z4, z5, z6, z8, z9, z10, z12, c, hc, ha, hs', rfl⟩
    simp only [List.length_nil] at hc
    refine ⟨trivial, ?_⟩
    dsimp only
    walk_at "go"
    refine ring_fz rfl ha hs' (by omega) fun rows s2 F hs2 => ?_
    walk_at "go"
    have hl4 := F.ln
    have hat : rows[0]? = some rows[0] := List.getElem?_eq_getElem (by omega)
    have hr : rows[0] ∈ rows := List.getElem_mem _
    generalize rows[0] = r at hat hr
    refine ix_i (xs := rows.map rowE) (z := rowE r) rfl (at_cells (j := 0) hat) ?_
    walk_at "go"
    refine ix_i (xs := [.str r.w, .int r.n, .lst (r.rs.map rdE)]) (z := .str r.w) rfl (by rfl) ?_
    walk_at "go"
    refine draw_fz rfl eupd_same hs2 (by omega) (by decide) (by decide) fun v s3 v0 v1 hs3 => ?_
    rw [eupd_eupd]
    walk_at "go"
    have ok : cellOk 1 (sortR rows) (r.w, [100 - v]) = true := by
      simp only [cellOk, Bool.and_eq_true, decide_eq_true_eq]
      exact ⟨List.mem_map.mpr ⟨r, (sortR_perm rows).mem_iff.mpr hr, rfl⟩, rfl, by show (0 : Int) ≤ 100 - v; omega⟩
    have inp : InP 1 [100 - v] := fun x hx => by
      rw [List.mem_singleton.mp hx]
      show 100 - v ≤ 200
      omega
    refine lengths_fz (b := (r.w, [100 - v])) rfl (F.fit 1000003 (by decide)) ok (fun hn => absurd (F.rdy ok) hn) (fun hm => absurd hm (F.few ok fun x hx => ?_)) fun lk lv Ln => ?_
    · have := inp x hx
      exact this
    refine seq_i ?_
    refine set_i ?_
    refine due12_i Ln ?_
    walk_at "go"
    refine ⟨rfl, ?_⟩
    refine init_mz rfl (F.fit _ (by decide)) ?_
    walk_at "go"
    refine needed_smf (s := (r.w, [100 - v])) rfl F.sm ok inp (F.rdy ok) fun K V1 V2 => ?_
    rw [srtN_eq (perm_nd V1 Ln.nd fun x => by rw [V2, Ln.reaI])]
    walk_at "go"
    refine eqS_same (n := 3) (x' := .lst ((srtN (nextC (sortR rows)) lk).map cellE)) rfl rfl (okB_of (okD_cells _)) (by decide) ?_
    refine ⟨_, rfl, ?_⟩
    refine cF_i ?_
    walk_at "go"
    refine ⟨rfl, ?_⟩
    refine init_mz (dims := 2) (md := 1000003) (rows := prR) rfl pr_fit ?_
    rw [pr_sort]
    walk_at "go"
    have m2 : (("b" : Str), [0, 1]) ∈ prK := by decide +kernel
    refine needed_smf (s := (("b" : Str), [0, 1])) rfl pr_sm (by decide +kernel) (by
      intro x hx
      have : ∀ x ∈ ([0, 1] : List Int), x ≤ 10 := by decide
      exact this x hx) (pr_rdy m2) fun K V1 V2 => ?_
    rw [prN_srt V1 V2]
    walk_at "go"
    refine eqS_same (n := 3) (x' := .lst (prN.map cellE)) rfl rfl (okB_of (okD_cells _)) (by decide) ?_
    rfl

end LW
open PySem PySem.W PySem.Calls PyProof.Rows
theorem PySem.Challenge.cw_farreads_k12_needed_cells_holds : PySem.Challenge.rw_farreads_k12_needed_cells.Holds := by
  w_on; o_law
  refine HandSHeadRun.head_any (r := OpenLaw.row PySem.Challenge.rw_farreads_k12_needed_cells) (q := view (OpenLaw.row PySem.Challenge.rw_farreads_k12_needed_cells).prog [46]) (H := LW.hk) (ob := LW.ob) (M := 6000) (loose := LW.loose) (d := HandSHeadRun.topDef (OpenLaw.row PySem.Challenge.rw_farreads_k12_needed_cells).prog 46) (kwd := []) LW.ob_eq
    (by kernel_rfl) (fun s => by kernel_rfl) LW.run (by kernel_rfl) (by kernel_rfl) (by kernel_rfl) (by rfl) (by first | assumption | decide +kernel) (by decide +kernel) ⟨rfl, rfl, rfl, rfl, rfl, by decide +kernel⟩ ?hw ?hc
  case hw => w_witness2
  case hc =>
    refine VM.walk_end (l := PySem.Challenge.rw_farreads_k12_needed_cells) (n := 63) (k := 7) (x := "_law_script") rfl (by decide) (by kernel_rfl) ⟨rfl, by decide, by decide⟩ ?F
    intro w mg fa h Y G hmg0
    obtain ⟨K, KX, c⟩ := Y
    have hmg : mg ("law" : PySem.Str) = some (.ref fa) := by
      have e : (HandSHeadRun.topDef (OpenLaw.row PySem.Challenge.rw_farreads_k12_needed_cells).prog 46).name = ("law" : PySem.Str) := by kernel_rfl
      rw [← e]
      exact hmg0
    have e := hmg.symm.trans (He.glo_ok KX G (c.x.t.d.fact 50 (f := .glo "law") rfl))
    cases e
    obtain ⟨fd, F⟩ := c.x.t.d.def_ 0 (d := LW.d_law) rfl
    have b := L2.FunD.bindsA (ps := ["_law_script"]) F fun _ _ _ _ _ _ us hl => match us, hl with | [_], _ => rfl
    exact ⟨K, KX, VM.end_at (F := LW.fn_law) KX G c (fun s v => b s [v] rfl) (fun base W => LW.ok_law W F) fun ns hl hb => LW.law_pure ns hl hb⟩
