import PyProof.Rows.All
import Wide.All
import OpenK.AllK
import Wide.FinOn
import HandS.ForMost
import HandS.ForExc
import HandS.Defaults
import HandS.Deep
import HandS.HeadHook1
import HandS.HeadHook2
import HandS.HeadHook3
import HandS.HeadHook4
import HandS.Lambda
import HandS.ExcCtx
import HandS.HotCalls
import KE.DataEq
import HandS.WideBits
import HandS.Wide
import HandS.TupMul
import KE.SortData
import HandS.Zip
import HandS.Comp
import HandS.MakeKw
import HandS.Property
import HandS.Star
import HandS.More
import HandS.ExcOwn
import KE.DatumOrd
import HandS.IsInst
import PyProof.ReprReads
import KE.SortKeyHeap
import KE.KLam
import HandS.Style
import HandS.Iter
import HandS.TupAny
import HandS.Conv
import PyProof.ReprRoads
import HandS.DeepEq
import KE.KEqNest
import HandS.Codes
import KE.KExcSuper
import KE.KExcIs
import KE.KIsAll
import HandS.ExcInit
import HandS.ExcSuper
import HandS.ExcValue
import HandS.Text
import PyProof.Rows.CountFlat
import HandS.TryOnly
import PyProof.StrOps2
import KE.KxAffix
import KE.IntTextText
import HandS.DictComp
import HandS.Dict
import KE.KDictList
import KE.KDictZip
import HandS.ListItems
import PyProof.ListStr
import PyProof.ListMulRoad
import PyProof.FactsAll.tuple_2
import KE.KDictPairs
import PyProof.Rows.TupIter
import HandS.HeadWalk
import HandS.NestedK
import HandS.Head2
import KE.IntBitsLaws
import PySem.Challenge.RW_farreads_k05_errors_of_systems
set_option Elab.async false
set_option linter.all false
set_option maxRecDepth 100000
set_option maxHeartbeats 4000000
/-! VM0: which defs hold lambdas (specialised for each proof): the def, its lambda's name. -/
namespace VM
open PySem PySem.Spec PyProof.Rows L2
def tfs : List (He.Defn × Str) := [(("System", some "__init__"), "System.__init__.<locals>.<lambda>")]
/-- the classes that isinstance is asked of -/
def xcs : List Str := ["System"]
end VM

/-! VM1: values as trees over the hand layer: EV, what it says of V and Hp (Rp), states (Rl), steps, readings of shallow terms (U, US). -/
namespace VM
open PySem PySem.Spec PyProof.Rows L2

/-- room for k calls, and no repr is under way -/
structure RoomG (k : Nat) (A : Around) : Prop where
  r : Room k A
  g : A.guards = some []
namespace RoomG
variable {i k : Nat} {A : Around}
theorem mono (h : RoomG k A) (l : i ≤ k) : RoomG i A := ⟨h.r.mono l, h.g⟩
theorem deeper (h : RoomG (k + 1) A) (v : Env) : RoomG k (A.deeper v) := ⟨h.r.deeper v, h.g⟩
theorem in1 (h : RoomG (k + 1) A) : RoomG k A.in1 := ⟨h.r.in1, h.g⟩
theorem make (h : RoomG (k + 1) A) (c : Addr) (as : List Value) (kw : List (Str × Value)) : RoomG k (A.under (.builtin "type.__call__" ⟨.ref c :: as, kw⟩)) :=
  ⟨h.r.make c as kw, by show pushGuards (Code.guards (.builtin "type.__call__" ⟨.ref c :: as, kw⟩)) A.guards = _; rw [h.g]; rfl⟩
theorem hd (h : RoomG k A) : A.handled = none := h.r.hd
theorem units (h : RoomG k A) : A.units + 64 < cLine := h.r.units
theorem dp (h : RoomG k A) : A.depth + 3 * k + 5 < recursionLimit := h.r.dp
end RoomG

/-- the tables of code objects, by the defs that make lambdas -/
def tabT (K : PySem.W.Frag) : List (Addr × Str) := tfs.map fun p => ((He.cT K p.1).2, p.2)

inductive EV where
  | non | bl (b : Bool) | int (i : Int) | str (x : Str) | ty (n : String)
  | ref (a : Addr) | glo (x : Str) | scr (ns : List Int)
  | tup (xs : List EV) | lst (xs : List EV) | dct (kvs : List (Key × EV)) | obj (C : Str) (fs : List (Str × EV)) | exc (C : Str) (x : EV) | exa (a : Addr) (C : Str) (x : EV)
  deriving Inhabited
inductive EO where
  | lst (xs : List EV) | dct (kvs : List (Key × EV)) | ins (C : Str) (fs : List (Str × EV))
abbrev Es := List (Option EV)
abbrev Eh := Addr → Option EO
def eupd (h : Eh) (a : Addr) (o : Option EO) : Eh := fun b => if b = a then o else h b
theorem eupd_same {h : Eh} {a : Addr} {o : Option EO} : eupd h a o a = o := by simp [eupd]
theorem eupd_ne {h : Eh} {a b : Addr} {o : Option EO} (n : b ≠ a) : eupd h a o b = h b := by simp [eupd, n]
theorem eupd_eupd {h : Eh} {a : Addr} {o u : Option EO} : eupd (eupd h a o) a u = eupd h a u := by funext b; unfold eupd; split <;> rfl
theorem eupd_self {h : Eh} {a : Addr} {o : Option EO} (e : h a = o) : eupd h a o = h := by
  funext b; unfold eupd; split
  · rename_i z; rw [z, e]
  · rfl

/-- an exception that is held: its class, its dict -/
abbrev exh (a : Addr) (cls : Value) (d : Option Addr) : HO := .ext fun h => ∃ (oe : Obj) (vs : Array Value), h.get? a = some oe ∧ L2N.Zn cls d oe ∧ oe.data = .fields vs
/-- a list that nobody writes -/
def ScrAt (K : PySem.W.Frag) (Hd : Addr → Prop) (eh : Eh) (H : Hp) (a : Addr) (vs : List V) : Prop :=
  (∃ o, H a = some (.frz o (.lst vs))) ∨ (H a = some (.lst vs) ∧ eh a = none ∧ ¬ Hd a) ∨
    ∃ (o : Obj) (its : Array Value) (n : Nat), K.lookup a = some o ∧ o.cls = .type "list" ∧ o.dict = none ∧ o.data = .seq its n ∧ its.size ≤ sizeLine ∧ Vals vs its.toList
section
variable (K : PySem.W.Frag) (mg : Str → Option Value) (Hd : Addr → Prop) (eh : Eh) (H : Hp)
mutual
def Rp : EV → V → Prop
  | .non, v => v = .non
  | .bl b, v => v = .bl b
  | .int i, v => v = .int i
  | .str x, v => v = .str x
  | .ty n, v => v = .ty n
  | .ref a, v => v = .ref a
  | .glo x, v => ∃ u, mg x = some u ∧ RelV v u
  | .tup xs, v => ∃ a vs, v = .ref a ∧ SqT K H a vs ∧ RpL xs vs
  | .scr ns, v => ∃ a, v = .ref a ∧ ScrAt K Hd eh H a (ns.map V.int)
  | .lst xs, v => ∃ a vs, v = .ref a ∧ H a = some (.lst vs) ∧ (eh a = none ∧ ¬ Hd a) ∧ RpL xs vs
  | .dct kvs, v => ∃ a o us, v = .ref a ∧ H a = some (.frz o (.dK us)) ∧ RpK kvs us
  | .obj C fs, v => ∃ a c dx us, v = .ref a ∧ mg C = some (.ref c) ∧ H a = some (.ins c dx us) ∧ (eh a = none ∧ ¬ Hd a) ∧ RpF fs us
  | .exc C x, v => ∃ a c d u, v = .ref a ∧ mg C = some (.ref c) ∧ H a = some (exh a (.ref c) (some d)) ∧ H d = some (.xd [("value", u)]) ∧ (eh a = none ∧ ¬ Hd a) ∧ (eh d = none ∧ ¬ Hd d) ∧ Rp x u
  | .exa b C x, v => ∃ a c d u, (v = .ref a ∧ b = a) ∧ mg C = some (.ref c) ∧ H a = some (exh a (.ref c) (some d)) ∧ H d = some (.xd [("value", u)]) ∧ (eh a = none ∧ ¬ Hd a) ∧ (eh d = none ∧ ¬ Hd d) ∧ Rp x u
def RpL : List EV → List V → Prop
  | [], vs => vs = []
  | x :: xs, vs => ∃ v r, vs = v :: r ∧ Rp x v ∧ RpL xs r
def RpK : List (Key × EV) → List (Key × V) → Prop
  | [], us => us = []
  | (k, x) :: ps, us => ∃ v r, us = (k, v) :: r ∧ Rp x v ∧ RpK ps r
def RpF : List (Str × EV) → List (Str × V) → Prop
  | [], us => us = []
  | (k, x) :: ps, us => ∃ v r, us = (k, v) :: r ∧ Rp x v ∧ RpF ps r
end
def RpO (a : Addr) : EO → Prop
  | .lst xs => ∃ vs, H a = some (.lst vs) ∧ RpL K mg Hd eh H xs vs
  | .dct kvs => ∃ us, H a = some (.dK us) ∧ RpK K mg Hd eh H kvs us
  | .ins C fs => ∃ c dx us, mg C = some (.ref c) ∧ H a = some (.ins c dx us) ∧ RpF K mg Hd eh H fs us
structure Rh : Prop where
  tb : LamX.Tabs (tabT K) H
  ob : ∀ a o, eh a = some o → RpO K mg Hd eh H a o
  hd : ∀ a, Hd a → (∃ vs, H a = some (.lst vs)) ∧ eh a = none
structure Rl (es : Es) (σ : L2.St) : Prop where
  len : es.length = σ.length
  loc : ∀ (i : Nat) (x : EV), es[i]? = some (some x) → ∃ v, σ[i]? = some (some v) ∧ Rp K mg Hd eh H x v
  obj : Rh K mg Hd eh H
end

structure Step (eh : Eh) (H : Hp) (eh' : Eh) (H' : Hp) : Prop where
  st : ∀ a o, H a = some o → eh a = none → (∀ ps, o ≠ .tbl ps) → H' a = some o ∧ eh' a = none
  tup : ∀ a xs, H a = some (.tup xs) → H' a = some (.tup xs)
  frz : ∀ a o u, H a = some (.frz o u) → H' a = some (.frz o u)
theorem Step.refl {eh : Eh} {H : Hp} : Step eh H eh H := ⟨fun _ _ h n _ => ⟨h, n⟩, fun _ _ h => h, fun _ _ _ h => h⟩
theorem Step.trans {eh eh1 eh2 : Eh} {H H1 H2 : Hp} (a : Step eh H eh1 H1) (b : Step eh1 H1 eh2 H2) : Step eh H eh2 H2 :=
  ⟨fun c o h n t => let ⟨h1, n1⟩ := a.st c o h n t; b.st c o h1 n1 t, fun c xs h => b.tup c xs (a.tup c xs h), fun c o u h => b.frz c o u (a.frz c o u h)⟩

/-- the same, but for what is hidden -/
structure StepW (Hd : Addr → Prop) (eh : Eh) (H : Hp) (eh' : Eh) (H' : Hp) : Prop where
  st : ∀ a o, H a = some o → eh a = none → (∀ ps, o ≠ .tbl ps) → ¬ Hd a → H' a = some o ∧ eh' a = none
  tup : ∀ a xs, H a = some (.tup xs) → H' a = some (.tup xs)
  frz : ∀ a o u, H a = some (.frz o u) → H' a = some (.frz o u)
theorem Step.w {Hd : Addr → Prop} {eh eh' : Eh} {H H' : Hp} (s : Step eh H eh' H') : StepW Hd eh H eh' H' := ⟨fun a o h n t _ => s.st a o h n t, s.tup, s.frz⟩
theorem StepW.trans {Hd : Addr → Prop} {eh eh1 eh2 : Eh} {H H1 H2 : Hp} (a : StepW Hd eh H eh1 H1) (b : StepW Hd eh1 H1 eh2 H2) : StepW Hd eh H eh2 H2 :=
  ⟨fun c o h n t m => let ⟨h1, n1⟩ := a.st c o h n t m; b.st c o h1 n1 t m, fun c xs h => b.tup c xs (a.tup c xs h), fun c o u h => b.frz c o u (a.frz c o u h)⟩
section
variable {K : PySem.W.Frag} {mg : Str → Option Value} {Hd : Addr → Prop} {eh eh' : Eh} {H H' : Hp}
theorem SqT.stepW (s : StepW Hd eh H eh' H') {a : Addr} {vs : List V} (h : SqT K H a vs) : SqT K H' a vs := by
  rcases h with (h | ⟨o, h⟩) | h
  · exact .inl (.inl (s.tup _ _ h))
  · exact .inl (.inr ⟨o, s.frz _ _ _ h⟩)
  · exact .inr h
mutual
theorem Rp.stepW (s : StepW Hd eh H eh' H') : ∀ {x : EV} {v : V}, Rp K mg Hd eh H x v → Rp K mg Hd eh' H' x v
  | .non, _, h => h
  | .bl _, _, h => h
  | .int _, _, h => h
  | .str _, _, h => h
  | .ty _, _, h => h
  | .ref _, _, h => h
  | .glo _, _, h => h
  | .tup xs, _, ⟨a, vs, e, h, r⟩ => ⟨a, vs, e, SqT.stepW s h, RpL.stepW s r⟩
  | .scr ns, _, ⟨a, e, h⟩ => ⟨a, e, by
    rcases h with ⟨o, h⟩ | ⟨h, n, m⟩ | h
    · exact .inl ⟨o, s.frz _ _ _ h⟩
    · exact .inr (.inl ⟨(s.st _ _ h n (fun _ z => nomatch z) m).1, (s.st _ _ h n (fun _ z => nomatch z) m).2, m⟩)
    · exact .inr (.inr h)⟩
  | .lst xs, _, ⟨a, vs, e, h, n, r⟩ => ⟨a, vs, e, (s.st _ _ h n.1 (fun _ z => nomatch z) n.2).1, ⟨(s.st _ _ h n.1 (fun _ z => nomatch z) n.2).2, n.2⟩, RpL.stepW s r⟩
  | .dct xs, _, ⟨a, o, vs, e, h, r⟩ => ⟨a, o, vs, e, s.frz _ _ _ h, RpK.stepW s r⟩
  | .obj C fs, _, ⟨a, c, dx, us, e, m, h, n, r⟩ => ⟨a, c, dx, us, e, m, (s.st _ _ h n.1 (fun _ z => nomatch z) n.2).1, ⟨(s.st _ _ h n.1 (fun _ z => nomatch z) n.2).2, n.2⟩, RpF.stepW s r⟩
  | .exc C x, _, ⟨a, c, d, u, e, m, h, h', n, n', r⟩ => ⟨a, c, d, u, e, m, (s.st _ _ h n.1 (fun _ z => nomatch z) n.2).1, (s.st _ _ h' n'.1 (fun _ z => nomatch z) n'.2).1, ⟨(s.st _ _ h n.1 (fun _ z => nomatch z) n.2).2, n.2⟩, ⟨(s.st _ _ h' n'.1 (fun _ z => nomatch z) n'.2).2, n'.2⟩, Rp.stepW s r⟩
  | .exa _ C x, _, ⟨a, c, d, u, e, m, h, h', n, n', r⟩ => ⟨a, c, d, u, e, m, (s.st _ _ h n.1 (fun _ z => nomatch z) n.2).1, (s.st _ _ h' n'.1 (fun _ z => nomatch z) n'.2).1, ⟨(s.st _ _ h n.1 (fun _ z => nomatch z) n.2).2, n.2⟩, ⟨(s.st _ _ h' n'.1 (fun _ z => nomatch z) n'.2).2, n'.2⟩, Rp.stepW s r⟩
theorem RpL.stepW (s : StepW Hd eh H eh' H') : ∀ {x : List EV} {v : List V}, RpL K mg Hd eh H x v → RpL K mg Hd eh' H' x v
  | [], _, h => h
  | _ :: _, _, ⟨v, r, e, h, t⟩ => ⟨v, r, e, Rp.stepW s h, RpL.stepW s t⟩
theorem RpK.stepW (s : StepW Hd eh H eh' H') : ∀ {x : List (Key × EV)} {v : List (Key × V)}, RpK K mg Hd eh H x v → RpK K mg Hd eh' H' x v
  | [], _, h => h
  | (_, _) :: _, _, ⟨v, r, e, h, t⟩ => ⟨v, r, e, Rp.stepW s h, RpK.stepW s t⟩
theorem RpF.stepW (s : StepW Hd eh H eh' H') : ∀ {x : List (Str × EV)} {v : List (Str × V)}, RpF K mg Hd eh H x v → RpF K mg Hd eh' H' x v
  | [], _, h => h
  | (_, _) :: _, _, ⟨v, r, e, h, t⟩ => ⟨v, r, e, Rp.stepW s h, RpF.stepW s t⟩
end
theorem SqT.step (s : Step eh H eh' H') {a : Addr} {vs : List V} (h : SqT K H a vs) : SqT K H' a vs := SqT.stepW (Hd := fun _ => False) s.w h
theorem Rp.step (s : Step eh H eh' H') {x : EV} {v : V} (h : Rp K mg Hd eh H x v) : Rp K mg Hd eh' H' x v := h.stepW s.w
theorem RpL.step (s : Step eh H eh' H') {x : List EV} {v : List V} (h : RpL K mg Hd eh H x v) : RpL K mg Hd eh' H' x v := h.stepW s.w
theorem RpK.step (s : Step eh H eh' H') {x : List (Key × EV)} {v : List (Key × V)} (h : RpK K mg Hd eh H x v) : RpK K mg Hd eh' H' x v := h.stepW s.w
theorem RpF.step (s : Step eh H eh' H') {x : List (Str × EV)} {v : List (Str × V)} (h : RpF K mg Hd eh H x v) : RpF K mg Hd eh' H' x v := h.stepW s.w
theorem ScrAt.sq {K : PySem.W.Frag} {Hd : Addr → Prop} {eh : Eh} {H : Hp} {a : Addr} {vs : List V} (h : ScrAt K Hd eh H a vs) : SqL K H a vs := by
  rcases h with h | ⟨h, _⟩ | h
  · exact .inl (.inr h)
  · exact .inl (.inl h)
  · exact .inr h
/-- more is hidden, of what was not there -/
theorem hid_ok {Hd Hd' : Addr → Prop} {eh : Eh} {H : Hp} (i : ∀ a, Hd' a → Hd a ∨ H a = none) {a : Addr} {o : HO} (h : H a = some o) (n : ¬ Hd a) : ¬ Hd' a := fun z => by
  rcases i a z with z | z
  · exact n z
  · rw [h] at z; cases z
mutual
theorem Rp.hid {Hd Hd' : Addr → Prop} (i : ∀ a, Hd' a → Hd a ∨ H a = none) : ∀ {x : EV} {v : V}, Rp K mg Hd eh H x v → Rp K mg Hd' eh H x v
  | .non, _, h => h
  | .bl _, _, h => h
  | .int _, _, h => h
  | .str _, _, h => h
  | .ty _, _, h => h
  | .ref _, _, h => h
  | .glo _, _, h => h
  | .tup xs, _, ⟨a, vs, e, h, r⟩ => ⟨a, vs, e, h, RpL.hid i r⟩
  | .scr ns, _, ⟨a, e, h⟩ => ⟨a, e, by
    rcases h with ⟨o, h⟩ | ⟨h, n, m⟩ | h
    · exact .inl ⟨o, h⟩
    · exact .inr (.inl ⟨h, n, hid_ok (eh := eh) i h m⟩)
    · exact .inr (.inr h)⟩
  | .lst xs, _, ⟨a, vs, e, h, n, r⟩ => ⟨a, vs, e, h, ⟨n.1, hid_ok (eh := eh) i h n.2⟩, RpL.hid i r⟩
  | .dct xs, _, ⟨a, o, vs, e, h, r⟩ => ⟨a, o, vs, e, h, RpK.hid i r⟩
  | .obj C fs, _, ⟨a, c, dx, us, e, m, h, n, r⟩ => ⟨a, c, dx, us, e, m, h, ⟨n.1, hid_ok (eh := eh) i h n.2⟩, RpF.hid i r⟩
  | .exc C x, _, ⟨a, c, d, u, e, m, h, h', n, n', r⟩ => ⟨a, c, d, u, e, m, h, h', ⟨n.1, hid_ok (eh := eh) i h n.2⟩, ⟨n'.1, hid_ok (eh := eh) i h' n'.2⟩, Rp.hid i r⟩
  | .exa _ C x, _, ⟨a, c, d, u, e, m, h, h', n, n', r⟩ => ⟨a, c, d, u, e, m, h, h', ⟨n.1, hid_ok (eh := eh) i h n.2⟩, ⟨n'.1, hid_ok (eh := eh) i h' n'.2⟩, Rp.hid i r⟩
theorem RpL.hid {Hd Hd' : Addr → Prop} (i : ∀ a, Hd' a → Hd a ∨ H a = none) : ∀ {x : List EV} {v : List V}, RpL K mg Hd eh H x v → RpL K mg Hd' eh H x v
  | [], _, h => h
  | _ :: _, _, ⟨v, r, e, h, t⟩ => ⟨v, r, e, Rp.hid i h, RpL.hid i t⟩
theorem RpK.hid {Hd Hd' : Addr → Prop} (i : ∀ a, Hd' a → Hd a ∨ H a = none) : ∀ {x : List (Key × EV)} {v : List (Key × V)}, RpK K mg Hd eh H x v → RpK K mg Hd' eh H x v
  | [], _, h => h
  | (_, _) :: _, _, ⟨v, r, e, h, t⟩ => ⟨v, r, e, Rp.hid i h, RpK.hid i t⟩
theorem RpF.hid {Hd Hd' : Addr → Prop} (i : ∀ a, Hd' a → Hd a ∨ H a = none) : ∀ {x : List (Str × EV)} {v : List (Str × V)}, RpF K mg Hd eh H x v → RpF K mg Hd' eh H x v
  | [], _, h => h
  | (_, _) :: _, _, ⟨v, r, e, h, t⟩ => ⟨v, r, e, Rp.hid i h, RpF.hid i t⟩
end
theorem RpO.hid {Hd Hd' : Addr → Prop} (i : ∀ a, Hd' a → Hd a ∨ H a = none) {a : Addr} {o : EO} (h : RpO K mg Hd eh H a o) : RpO K mg Hd' eh H a o := by
  cases o with
  | lst xs => obtain ⟨vs, q, r⟩ := h; exact ⟨vs, q, r.hid i⟩
  | dct xs => obtain ⟨vs, q, r⟩ := h; exact ⟨vs, q, r.hid i⟩
  | ins C fs => obtain ⟨c, dx, us, m, q, r⟩ := h; exact ⟨c, dx, us, m, q, r.hid i⟩
/-- less is hidden -/
theorem Rh.less {Hd Hd' : Addr → Prop} (R : Rh K mg Hd eh H) (i : ∀ a, Hd' a → Hd a) : Rh K mg Hd' eh H := ⟨R.tb, fun a o e => (R.ob a o e).hid fun a z => .inl (i a z), fun a z => R.hd a (i a z)⟩
theorem RpL.length : ∀ {xs : List EV} {vs : List V}, RpL K mg Hd eh H xs vs → xs.length = vs.length
  | [], _, h => by cases h; rfl
  | _ :: _, _, ⟨_, _, e, _, t⟩ => by subst e; simp [RpL.length t]
theorem RpL.get : ∀ {xs : List EV} {vs : List V} {i : Nat} {x : EV}, RpL K mg Hd eh H xs vs → xs[i]? = some x → ∃ v, vs[i]? = some v ∧ Rp K mg Hd eh H x v
  | [], _, _, _, _, e => by simp at e
  | _ :: _, _, 0, _, ⟨v, r, e, h, t⟩, z => by subst e; simp at z; subst z; exact ⟨v, rfl, h⟩
  | _ :: _, _, i + 1, _, ⟨v, r, e, h, t⟩, z => by subst e; simpa using RpL.get t (by simpa using z)
theorem RpL.get' : ∀ {xs : List EV} {vs : List V} {i : Nat} {v : V}, RpL K mg Hd eh H xs vs → vs[i]? = some v → ∃ x, xs[i]? = some x ∧ Rp K mg Hd eh H x v
  | [], _, _, _, h, e => by cases h; simp at e
  | x :: _, _, 0, _, ⟨v, r, e, h, t⟩, z => by subst e; simp at z; subst z; exact ⟨x, rfl, h⟩
  | _ :: _, _, i + 1, _, ⟨v, r, e, h, t⟩, z => by subst e; simpa using RpL.get' t (by simpa using z)
theorem RpL.append : ∀ {xs ys : List EV} {vs us : List V}, RpL K mg Hd eh H xs vs → RpL K mg Hd eh H ys us → RpL K mg Hd eh H (xs ++ ys) (vs ++ us)
  | [], _, _, _, h, t => by cases h; exact t
  | _ :: _, _, _, _, ⟨v, r, e, h, t⟩, z => by subst e; exact ⟨v, _, rfl, h, RpL.append t z⟩
theorem RpL.nil : RpL K mg Hd eh H [] [] := rfl
theorem RpL.cons {x : EV} {v : V} {xs : List EV} {vs : List V} (h : Rp K mg Hd eh H x v) (t : RpL K mg Hd eh H xs vs) : RpL K mg Hd eh H (x :: xs) (v :: vs) := ⟨v, vs, rfl, h, t⟩
theorem RpL.one {x : EV} {v : V} (h : Rp K mg Hd eh H x v) : RpL K mg Hd eh H [x] [v] := .cons h .nil
theorem RpL.take : ∀ {xs : List EV} {vs : List V} (n : Nat), RpL K mg Hd eh H xs vs → RpL K mg Hd eh H (xs.take n) (vs.take n)
  | _, _, 0, _ => by simp [RpL]
  | [], _, _ + 1, h => by cases h; exact rfl
  | _ :: _, _, n + 1, ⟨v, r, e, h, t⟩ => by subst e; exact ⟨v, _, rfl, h, RpL.take n t⟩
theorem RpL.drop : ∀ {xs : List EV} {vs : List V} (n : Nat), RpL K mg Hd eh H xs vs → RpL K mg Hd eh H (xs.drop n) (vs.drop n)
  | _, _, 0, h => h
  | [], _, _ + 1, h => by cases h; exact rfl
  | _ :: _, _, n + 1, ⟨v, r, e, h, t⟩ => by subst e; exact RpL.drop n t
theorem RpL.set {x : EV} {v : V} (q : Rp K mg Hd eh H x v) : ∀ {xs : List EV} {vs : List V} (n : Nat), RpL K mg Hd eh H xs vs → RpL K mg Hd eh H (xs.set n x) (vs.set n v)
  | [], _, _, h => by cases h; exact rfl
  | _ :: _, _, 0, ⟨v, r, e, h, t⟩ => by subst e; exact ⟨_, _, rfl, q, t⟩
  | _ :: _, _, n + 1, ⟨v, r, e, h, t⟩ => by subst e; exact ⟨_, _, rfl, h, RpL.set q n t⟩
theorem RpL.reverse : ∀ {xs : List EV} {vs : List V}, RpL K mg Hd eh H xs vs → RpL K mg Hd eh H xs.reverse vs.reverse
  | [], _, h => by cases h; exact rfl
  | _ :: _, _, ⟨v, r, e, h, t⟩ => by subst e; simp only [List.reverse_cons]; exact RpL.append (RpL.reverse t) (.one h)
theorem RpL.dropLast {xs : List EV} {vs : List V} (h : RpL K mg Hd eh H xs vs) : RpL K mg Hd eh H xs.dropLast vs.dropLast := by
  rw [List.dropLast_eq_take, List.dropLast_eq_take, h.length]; exact h.take _
theorem RpL.eraseIdx : ∀ {xs : List EV} {vs : List V} (n : Nat), RpL K mg Hd eh H xs vs → RpL K mg Hd eh H (xs.eraseIdx n) (vs.eraseIdx n)
  | [], _, _, h => by cases h; exact rfl
  | _ :: _, _, 0, ⟨v, r, e, h, t⟩ => by subst e; exact t
  | _ :: _, _, n + 1, ⟨v, r, e, h, t⟩ => by subst e; exact ⟨_, _, rfl, h, RpL.eraseIdx n t⟩
theorem RpL.ints : ∀ {ns : List Int} {vs : List V}, RpL K mg Hd eh H (ns.map EV.int) vs → vs = ns.map V.int
  | [], _, h => h
  | _ :: _, _, ⟨v, r, e, h, t⟩ => by subst e; cases h; rw [RpL.ints t]; rfl
theorem RpL.of_ints : ∀ (ns : List Int), RpL K mg Hd eh H (ns.map EV.int) (ns.map V.int)
  | [] => rfl
  | n :: ns => .cons rfl (RpL.of_ints ns)
theorem RpL.strs : ∀ {ns : List Str} {vs : List V}, RpL K mg Hd eh H (ns.map EV.str) vs → vs = ns.map V.str
  | [], _, h => h
  | _ :: _, _, ⟨v, r, e, h, t⟩ => by subst e; cases h; rw [RpL.strs t]; rfl
theorem RpL.of_strs : ∀ (ns : List Str), RpL K mg Hd eh H (ns.map EV.str) (ns.map V.str)
  | [] => rfl
  | n :: ns => .cons rfl (RpL.of_strs ns)
theorem RpL.bools : ∀ {ns : List Bool} {vs : List V}, RpL K mg Hd eh H (ns.map EV.bl) vs → vs = ns.map V.bl
  | [], _, h => h
  | _ :: _, _, ⟨v, r, e, h, t⟩ => by subst e; cases h; rw [RpL.bools t]; rfl
theorem RpK.length : ∀ {xs : List (Key × EV)} {vs : List (Key × V)}, RpK K mg Hd eh H xs vs → xs.length = vs.length
  | [], _, h => by cases h; rfl
  | (_, _) :: _, _, ⟨_, _, e, _, t⟩ => by subst e; simp [RpK.length t]
theorem RpK.keys : ∀ {xs : List (Key × EV)} {vs : List (Key × V)}, RpK K mg Hd eh H xs vs → vs.map (·.1) = xs.map (·.1)
  | [], _, h => by cases h; rfl
  | (_, _) :: _, _, ⟨_, _, e, _, t⟩ => by subst e; simp [RpK.keys t]
theorem RpK.get' : ∀ {xs : List (Key × EV)} {vs : List (Key × V)} {i : Nat} {k : Key} {v : V}, RpK K mg Hd eh H xs vs → vs[i]? = some (k, v) → ∃ x, xs[i]? = some (k, x) ∧ Rp K mg Hd eh H x v
  | [], _, _, _, _, h, e => by cases h; simp at e
  | (_, x) :: _, _, 0, _, _, ⟨v, r, e, h, t⟩, z => by
    subst e; simp at z; obtain ⟨rfl, rfl⟩ := z; exact ⟨x, rfl, h⟩
  | (_, _) :: _, _, i + 1, _, _, ⟨v, r, e, h, t⟩, z => by subst e; simpa using RpK.get' t (by simpa using z)
theorem RpL.isEmpty {xs : List EV} {vs : List V} (h : RpL K mg Hd eh H xs vs) : vs.isEmpty = xs.isEmpty := by
  have := h.length; cases xs <;> cases vs <;> first | rfl | simp at this
theorem RpK.isEmpty {xs : List (Key × EV)} {vs : List (Key × V)} (h : RpK K mg Hd eh H xs vs) : vs.isEmpty = xs.isEmpty := by
  have := h.length; cases xs <;> cases vs <;> first | rfl | simp at this
theorem RpF.keys : ∀ {xs : List (Str × EV)} {vs : List (Str × V)}, RpF K mg Hd eh H xs vs → vs.map (·.1) = xs.map (·.1)
  | [], _, h => by cases h; rfl
  | (_, _) :: _, _, ⟨_, _, e, _, t⟩ => by subst e; simp [RpF.keys t]
theorem RpF.length {xs : List (Str × EV)} {vs : List (Str × V)} (h : RpF K mg Hd eh H xs vs) : xs.length = vs.length := by
  have := congrArg List.length h.keys; simpa using this.symm
theorem RpF.lookup {f : Str} : ∀ {xs : List (Str × EV)} {vs : List (Str × V)} {x : EV}, RpF K mg Hd eh H xs vs → xs.lookup f = some x → ∃ v, vs.lookup f = some v ∧ Rp K mg Hd eh H x v
  | [], _, _, _, e => by simp at e
  | (k, _) :: _, _, x, ⟨v, r, e, h, t⟩, z => by
    subst e
    cases hk : f == k with
    | true => simp only [List.lookup_cons, hk] at z ⊢; cases z; exact ⟨v, rfl, h⟩
    | false => simp only [List.lookup_cons, hk] at z ⊢; exact RpF.lookup t z
theorem RpF.lookup_none {f : Str} : ∀ {xs : List (Str × EV)} {vs : List (Str × V)}, RpF K mg Hd eh H xs vs → xs.lookup f = none → vs.lookup f = none
  | [], _, h, e => by cases h; rfl
  | (k, _) :: _, _, ⟨v, r, e, h, t⟩, z => by
    subst e
    cases hk : f == k with
    | true => simp only [List.lookup_cons, hk] at z; cases z
    | false => simp only [List.lookup_cons, hk] at z ⊢; exact RpF.lookup_none t z
end
end VM

/-! VM2: readings U, UT, UA, US of shallow terms; names, constants, operators, tests, blocks. -/
namespace VM
open PySem PySem.Spec PyProof.Rows L2

/-! ### shallow terms -/
abbrev XC := Str → EV → Eh → Prop
abbrev KE := EV → Eh → Prop
abbrev ME := XC → Es → Eh → KE → Prop
abbrev MT := XC → Es → Eh → (Bool → Eh → Prop) → Prop
abbrev MA := XC → Es → Eh → (List EV → Eh → Prop) → Prop
structure Dn where
  nx : Es → Eh → Prop
  rt : KE
  bk : Es → Eh → Prop := fun _ _ => False
  ct : Es → Eh → Prop := fun _ _ => False
abbrev MS := XC → Dn → Es → Eh → Prop
abbrev EO2 := EV → EV → Eh → KE → Prop
abbrev EO1 := EV → Eh → KE → Prop
abbrev EOL := List EV → Eh → KE → Prop

section
variable (K : PySem.W.Frag) (mg : Str → Option Value) (E : XK)
/-- what an exception's continuation leads to -/
def XOk (Hd : Addr → Prop) (eh : Eh) (H : Hp) (xc : XC) : Prop := ∀ eh' H' C c d x v, Step eh H eh' H' → Rh K mg Hd eh' H' → mg C = some (.ref c) → H' d = some (.xd [("value", v)]) → Rp K mg Hd eh' H' x v → xc C x eh' → E (.ref c) (some d) H'
def U (m : ME) : TE := fun σ H Q => ∃ Hd es eh xc q, Rl K mg Hd eh H es σ ∧ XOk K mg E Hd eh H xc ∧ m xc es eh q ∧
  ∀ eh' H' x v, Step eh H eh' H' → Rh K mg Hd eh' H' → Rp K mg Hd eh' H' x v → q x eh' → Q v H'
def UT (m : MT) : TT := fun σ H Q => ∃ Hd es eh xc q, Rl K mg Hd eh H es σ ∧ XOk K mg E Hd eh H xc ∧ m xc es eh q ∧
  ∀ eh' H' b, Step eh H eh' H' → Rh K mg Hd eh' H' → q b eh' → Q b H'
def UA (m : MA) : TA := fun σ H Q => ∃ Hd es eh xc q, Rl K mg Hd eh H es σ ∧ XOk K mg E Hd eh H xc ∧ m xc es eh q ∧
  ∀ eh' H' xs vs, Step eh H eh' H' → Rh K mg Hd eh' H' → RpL K mg Hd eh' H' xs vs → q xs eh' → Q vs H'
def US (m : MS) : TS := fun D σ H => ∃ Hd es eh xc d, Rl K mg Hd eh H es σ ∧ XOk K mg E Hd eh H xc ∧ m xc d es eh ∧
  (∀ es' eh' σ' H', Step eh H eh' H' → Rl K mg Hd eh' H' es' σ' → d.nx es' eh' → D.nx σ' H') ∧
  (∀ eh' H' x v, Step eh H eh' H' → Rh K mg Hd eh' H' → Rp K mg Hd eh' H' x v → d.rt x eh' → D.rt v H') ∧
  (∀ es' eh' σ' H', Step eh H eh' H' → Rl K mg Hd eh' H' es' σ' → d.bk es' eh' → D.bk σ' H') ∧
  (∀ es' eh' σ' H', Step eh H eh' H' → Rl K mg Hd eh' H' es' σ' → d.ct es' eh' → D.ct σ' H')
def U1 (o : EO1) : V → Hp → VK → Prop := fun v H Q => ∃ Hd eh x q, Rh K mg Hd eh H ∧ Rp K mg Hd eh H x v ∧ o x eh q ∧
  ∀ eh' H' z w, Step eh H eh' H' → Rh K mg Hd eh' H' → Rp K mg Hd eh' H' z w → q z eh' → Q w H'
def U2 (o : EO2) : R2 := fun v u H Q => ∃ Hd eh x y q, Rh K mg Hd eh H ∧ Rp K mg Hd eh H x v ∧ Rp K mg Hd eh H y u ∧ o x y eh q ∧
  ∀ eh' H' z w, Step eh H eh' H' → Rh K mg Hd eh' H' → Rp K mg Hd eh' H' z w → q z eh' → Q w H'
def UL (o : EOL) : List V → Hp → VK → Prop := fun vs H Q => ∃ Hd eh xs q, Rh K mg Hd eh H ∧ RpL K mg Hd eh H xs vs ∧ o xs eh q ∧
  ∀ eh' H' z w, Step eh H eh' H' → Rh K mg Hd eh' H' → Rp K mg Hd eh' H' z w → q z eh' → Q w H'
def UM (o : EV → EOL) : V → List V → Hp → VK → Prop := fun v vs H Q => ∃ Hd eh x xs q, Rh K mg Hd eh H ∧ Rp K mg Hd eh H x v ∧ RpL K mg Hd eh H xs vs ∧ o x xs eh q ∧
  ∀ eh' H' z w, Step eh H eh' H' → Rh K mg Hd eh' H' → Rp K mg Hd eh' H' z w → q z eh' → Q w H'
end
theorem Rl.step {K mg Hd} {eh eh' : Eh} {H H' : Hp} {es : Es} {σ : L2.St} (R : Rl K mg Hd eh H es σ) (s : Step eh H eh' H') (R' : Rh K mg Hd eh' H') : Rl K mg Hd eh' H' es σ :=
  ⟨R.len, fun i x e => let ⟨v, a, b⟩ := R.loc i x e; ⟨v, a, b.step s⟩, R'⟩
theorem XOk.step {K mg} {E : XK} {Hd : Addr → Prop} {eh eh' : Eh} {H H' : Hp} {xc : XC} (x : XOk K mg E Hd eh H xc) (s : Step eh H eh' H') : XOk K mg E Hd eh' H' xc :=
  fun eh2 H2 C c d x' v s2 => x eh2 H2 C c d x' v (s.trans s2)

/-! ### weakening -/
theorem PE.imp {X : Cx} {e : Expr} {t t' : TE} (h : PE X e t) (i : ∀ σ H Q, t' σ H Q → t σ H Q) : PE X e t' := ⟨fun pins s σ H Q I w => h.run pins s σ H Q I (i σ H Q w)⟩
theorem PT.imp {X : Cx} {e : Expr} {t t' : TT} (h : PT X e t) (i : ∀ σ H Q, t' σ H Q → t σ H Q) : PT X e t' := ⟨fun pins s σ H Q I w => h.run pins s σ H Q I (i σ H Q w)⟩
theorem PW.imp {X : Cx} {e : Expr} {t t' : TT} (h : PW X e t) (i : ∀ σ H Q, t' σ H Q → t σ H Q) : PW X e t' := ⟨fun wh pins s σ H Q I w => h.run wh pins s σ H Q I (i σ H Q w)⟩
theorem PA.imp {X : Cx} {e : List Expr} {t t' : TA} (h : PA X e t) (i : ∀ σ H Q, t' σ H Q → t σ H Q) : PA X e t' := ⟨fun pos pins s σ H Q I w => h.run pos pins s σ H Q I (i σ H Q w)⟩
theorem PS.imp {X : Cx} {e : Stmt} {t t' : TS} (h : PS X e t) (i : ∀ D σ H, t' D σ H → t D σ H) : PS X e t' := ⟨fun pins s σ H D I w => h.run pins s σ H D I (i D σ H w)⟩
theorem PSs.imp {X : Cx} {e : List Stmt} {t t' : TS} (h : PSs X e t) (i : ∀ D σ H, t' D σ H → t D σ H) : PSs X e t' := ⟨fun pins s σ H D I w => h.run pins s σ H D I (i D σ H w)⟩
theorem OpR.imp {X : Cx} {f} {t t' : R2} (h : OpR X f t) (i : ∀ x y H Q, t' x y H Q → t x y H Q) : OpR X f t' := fun pins s σ H x y v u Q I r1 r2 w => h pins s σ H x y v u Q I r1 r2 (i x y H Q w)
theorem CallR.imp {X : Cx} {f} {t t' : List V → Hp → VK → Prop} (h : CallR X f t) (i : ∀ x H Q, t' x H Q → t x H Q) : CallR X f t' := fun pins s σ H x v Q I r1 w => h pins s σ H x v Q I r1 (i x H Q w)

/-! ### terms -/
def mC (x : EV) : ME := fun _ _ eh q => q x eh
def mVar (i : Nat) : ME := fun _ es eh q => match es[i]? with | some (some x) => q x eh | _ => False
def mOp (o : EO2) (a b : ME) : ME := fun xc es eh q => a xc es eh fun x eh1 => b xc es eh1 fun y eh2 => o x y eh2 q
def mUn (o : EO1) (a : ME) : ME := fun xc es eh q => a xc es eh fun x eh1 => o x eh1 q
def mChain (o o' : EO2) (a b c : ME) : ME := fun xc es eh q => a xc es eh fun x eh1 => b xc es eh1 fun y eh2 => o x y eh2 fun z eh3 => match z with
  | .bl true => c xc es eh3 fun w eh4 => o' y w eh4 q
  | .bl false => q (.bl false) eh3
  | _ => False
def mIf (t : MT) (a b : ME) : ME := fun xc es eh q => t xc es eh fun c eh1 => match c with | true => a xc es eh1 q | false => b xc es eh1 q
def aNil : MA := fun _ _ eh q => q [] eh
def aCons (a : ME) (r : MA) : MA := fun xc es eh q => a xc es eh fun x eh1 => r xc es eh1 fun xs eh2 => q (x :: xs) eh2
def mTup (t : MA) : ME := fun xc es eh q => t xc es eh fun xs eh1 => xs.length ≤ sizeLine ∧ q (.tup xs) eh1
def mLst (t : MA) : ME := fun xc es eh q => t xc es eh fun xs eh1 => xs.length ≤ sizeLine ∧ q (.lst xs) eh1
def mLstR (t : MA) : ME := fun xc es eh q => t xc es eh fun xs eh1 => xs.length ≤ sizeLine ∧ ∀ p, eh1 p = none → q (.ref p) (eupd eh1 p (some (.lst xs)))
/-- a value as a test: a bool -/
def tVal (m : ME) : MT := fun xc es eh q => m xc es eh fun x eh1 => match x with | .bl b => q b eh1 | _ => False
def truE (eh : Eh) : EV → Option Bool
  | .non => some false
  | .bl b => some b
  | .int i => some (i != 0)
  | .str x => if x.length ≤ sizeLine then some ((x.length : Int) != 0) else none
  | .lst xs => some (!xs.isEmpty)
  | .tup xs => some (!xs.isEmpty)
  | .ref a => match eh a with | some (.lst xs) => some (!xs.isEmpty) | some (.dct xs) => some (!xs.isEmpty) | _ => none
  | _ => none
def tTru (m : ME) : MT := fun xc es eh q => m xc es eh fun x eh1 => match truE eh1 x with | some b => q b eh1 | none => False
def tAnd (t u : MT) : MT := fun xc es eh q => t xc es eh fun c eh1 => match c with | true => u xc es eh1 q | false => q false eh1
def tOr (t u : MT) : MT := fun xc es eh q => t xc es eh fun c eh1 => match c with | true => q true eh1 | false => u xc es eh1 q
def tNot (t : MT) : MT := fun xc es eh q => t xc es eh fun c eh1 => q (!c) eh1
def mAnd (a b : ME) : ME := fun xc es eh q => a xc es eh fun x eh1 => match x with | .bl true => b xc es eh1 q | .bl false => q (.bl false) eh1 | _ => False
def mOr (a b : ME) : ME := fun xc es eh q => a xc es eh fun x eh1 => match x with | .bl true => q (.bl true) eh1 | .bl false => b xc es eh1 q | _ => False
def mNot (a : ME) : ME := fun xc es eh q => a xc es eh fun x eh1 => match x with | .bl c => q (.bl (!c)) eh1 | _ => False

section
variable {X : Cx} {E : XK} {a b c e : Expr} {ma mb mc : ME} {mt mu : MT} {pos : Pos}

/-! ### names and constants -/
theorem fin {σ : L2.St} {H : Hp} {Q : VK} {es : Es} {eh : Eh} {q : KE} {x : EV} {v : V} (R : Rh X.K X.mg Hd eh H) (r : Rp X.K X.mg Hd eh H x v) (h : q x eh)
    (k : ∀ eh' H' x v, Step eh H eh' H' → Rh X.K X.mg Hd eh' H' → Rp X.K X.mg Hd eh' H' x v → q x eh' → Q v H') : Q v H := k eh H x v .refl R r h
theorem re_c {x : EV} {v : V} (h : PE X e (tC v)) (r : ∀ Hd eh H, Rp X.K X.mg Hd eh H x v) : PE X e (U X.K X.mg E (mC x)) :=
  PE.imp h fun σ H Q ⟨Hd, es, eh, xc, q, R, xo, m, k⟩ => k eh H x v .refl R.obj (r _ _ _) m
theorem re_int {i : Int} {j} : PE X (.Constant (.int i) j pos) (U X.K X.mg E (mC (.int i))) := re_c pe_int fun _ _ _ => rfl
theorem re_bl {b : Bool} {j} : PE X (.Constant (.bool b) j pos) (U X.K X.mg E (mC (.bl b))) := re_c pe_bl fun _ _ _ => rfl
theorem re_non {j} : PE X (.Constant .none j pos) (U X.K X.mg E (mC .non)) := re_c pe_non fun _ _ _ => rfl
theorem re_str {x : Str} {j} : PE X (.Constant (.str x) j pos) (U X.K X.mg E (mC (.str x))) := re_c pe_str fun _ _ _ => rfl
theorem re_var (i : Nat) {x : Str} (hN : X.N[i]? = some x := by rfl) (hv : Vis X.env.scope x := by first | exact Or.inl rfl | exact Or.inr (Or.inl rfl) | exact Or.inr (Or.inr rfl)) (hd : (x == ("__debug__" : Str)) = false := by decide)
    (hcd : (x == ("__classdict__" : Str)) = false := by decide) : PE X (.Name x pos) (U X.K X.mg E (mVar i)) :=
  PE.imp (pe_var hN hv hd hcd) fun σ H Q ⟨Hd, es, eh, xc, q, R, xo, m, k⟩ => by
    unfold mVar at m
    cases h : es[i]? with
    | none => rw [h] at m; exact m.elim
    | some o =>
      cases o with
      | none => rw [h] at m; exact m.elim
      | some x =>
        rw [h] at m
        obtain ⟨v, hv, r⟩ := R.loc i x h
        exact ⟨v, hv, k eh H x v .refl R.obj r m⟩
/-- a constant of the module -/
theorem re_glo {x : Str} {y : EV} {v : V} {u : Value} (hg : Gl X x) (hm : X.mg x = some u) (r : RelV v u) (r' : ∀ Hd eh H, Rp X.K X.mg Hd eh H y v) (hd : (x == ("__debug__" : Str)) = false := by decide) : PE X (.Name x pos) (U X.K X.mg E (mC y)) :=
  re_c (pe_glob hg hm r hd) r'

/-! ### operators -/
theorem op_lift {f : Value → Value → Sem Value} {o : EO2} (ho : OpR X f (U2 X.K X.mg o)) (ha : PE X a (U X.K X.mg E ma)) (hb : PE X b (U X.K X.mg E mb)) :
    ∀ σ H Q, U X.K X.mg E (mOp o ma mb) σ H Q → tOp (U2 X.K X.mg o) (U X.K X.mg E ma) (U X.K X.mg E mb) σ H Q := fun σ H Q ⟨Hd, es, eh, xc, q, R, xo, m, k⟩ =>
  ⟨Hd, es, eh, xc, _, R, xo, m, fun eh1 H1 x v s1 R1 r1 m1 => ⟨Hd, es, eh1, xc, _, R.step s1 R1, xo.step s1, m1, fun eh2 H2 y u s2 R2 r2 m2 =>
    ⟨Hd, eh2, x, y, q, R2, r1.step s2, r2, m2, fun eh3 H3 z w s3 R3 r3 h3 => k eh3 H3 z w (s1.trans (s2.trans s3)) R3 r3 h3⟩⟩⟩
theorem re_op {op : Operator} {o : EO2} (ho : OpR X (binaryOp op) (U2 X.K X.mg o)) (ha : PE X a (U X.K X.mg E ma)) (hb : PE X b (U X.K X.mg E mb)) : PE X (.BinOp a op b pos) (U X.K X.mg E (mOp o ma mb)) :=
  PE.imp (pe_op ho ha hb) (op_lift ho ha hb)
theorem re_cmp {op : CmpOp} {o : EO2} (ho : OpR X (compareOp op) (U2 X.K X.mg o)) (ha : PE X a (U X.K X.mg E ma)) (hb : PE X b (U X.K X.mg E mb)) (hm : behindInMarks op b = false) : PE X (.Compare a [op] [b] pos) (U X.K X.mg E (mOp o ma mb)) :=
  PE.imp (pe_cmpR ho ha hb hm) (op_lift ho ha hb)
theorem re_sub {o : EO2} (ho : IxR X (U2 X.K X.mg o)) (ha : PE X a (U X.K X.mg E ma)) (hb : PE X b (U X.K X.mg E mb)) (hs : PlainIx b) : PE X (.Subscript a b pos) (U X.K X.mg E (mOp o ma mb)) :=
  PE.imp (pe_ix ho ha hb hs) fun σ H Q ⟨Hd, es, eh, xc, q, R, xo, m, k⟩ =>
  ⟨Hd, es, eh, xc, _, R, xo, m, fun eh1 H1 x v s1 R1 r1 m1 => ⟨Hd, es, eh1, xc, _, R.step s1 R1, xo.step s1, m1, fun eh2 H2 y u s2 R2 r2 m2 =>
    ⟨Hd, eh2, x, y, q, R2, r1.step s2, r2, m2, fun eh3 H3 z w s3 R3 r3 h3 => k eh3 H3 z w (s1.trans (s2.trans s3)) R3 r3 h3⟩⟩⟩
theorem re_un {op : UnaryOp} {o : EO1} (ho : UnR X (unaryOp op) (U1 X.K X.mg o)) (ha : PE X a (U X.K X.mg E ma)) : PE X (.UnaryOp op a pos) (U X.K X.mg E (mUn o ma)) :=
  PE.imp (pe_un ho ha) fun σ H Q ⟨Hd, es, eh, xc, q, R, xo, m, k⟩ => ⟨Hd, es, eh, xc, _, R, xo, m, fun eh1 H1 x v s1 R1 r1 m1 =>
    ⟨Hd, eh1, x, q, R1, r1, m1, fun eh3 H3 z w s3 R3 r3 h3 => k eh3 H3 z w (s1.trans s3) R3 r3 h3⟩⟩
theorem chain_lift {o o' : EO2} : ∀ σ H Q, U X.K X.mg E (mChain o o' ma mb mc) σ H Q → tChain (U2 X.K X.mg o) (U2 X.K X.mg o') (U X.K X.mg E ma) (U X.K X.mg E mb) (U X.K X.mg E mc) σ H Q := fun σ H Q ⟨Hd, es, eh, xc, q, R, xo, m, k⟩ =>
  ⟨Hd, es, eh, xc, _, R, xo, m, fun eh1 H1 x v s1 R1 r1 m1 => ⟨Hd, es, eh1, xc, _, R.step s1 R1, xo.step s1, m1, fun eh2 H2 y u s2 R2 r2 m2 =>
    ⟨Hd, eh2, x, y, _, R2, r1.step s2, r2, m2, fun eh3 H3 z w s3 R3 r3 h3 => by
      cases z with
      | bl b =>
        cases r3
        refine ⟨b, rfl, ?_⟩
        cases b with
        | true => exact iteT ⟨Hd, es, eh3, xc, _, ((R.step s1 R1).step s2 R2).step s3 R3, ((xo.step s1).step s2).step s3, h3, fun eh4 H4 t w' s4 R4 r4 h4 =>
            ⟨Hd, eh4, y, t, q, R4, (r2.step s3).step s4, r4, h4, fun eh5 H5 z5 w5 s5 R5 r5 h5 => k eh5 H5 z5 w5 (s1.trans (s2.trans (s3.trans (s4.trans s5)))) R5 r5 h5⟩⟩
        | false => exact iteF (k eh3 H3 (.bl false) (.bl false) (s1.trans (s2.trans s3)) R3 rfl h3)
      | _ => exact h3.elim⟩⟩⟩
theorem re_chain {op op' : CmpOp} {o o' : EO2} (ho : OpR X (compareOp op) (U2 X.K X.mg o)) (ho' : OpR X (compareOp op') (U2 X.K X.mg o')) (ha : PE X a (U X.K X.mg E ma)) (hb : PE X b (U X.K X.mg E mb)) (hc : PE X c (U X.K X.mg E mc))
    (hm : lastMarks [op, op'] [b, c] = false := by with_unfolding_all rfl) : PE X (.Compare a [op, op'] [b, c] pos) (U X.K X.mg E (mChain o o' ma mb mc)) :=
  PE.imp (pe_chain ho ho' ha hb hc hm) chain_lift

/-! ### tests -/
theorem val_lift : ∀ σ H Q, UT X.K X.mg E (tVal ma) σ H Q → tTest (U X.K X.mg E ma) σ H Q := fun σ H Q ⟨Hd, es, eh, xc, q, R, xo, m, k⟩ =>
  ⟨Hd, es, eh, xc, _, R, xo, m, fun eh1 H1 x v s1 R1 r1 m1 => by
    cases x with
    | bl b => cases r1; exact ⟨b, rfl, k eh1 H1 b s1 R1 m1⟩
    | _ => exact m1.elim⟩
theorem rt_cmp {op : CmpOp} {o : EO2} (ho : OpR X (compareOp op) (U2 X.K X.mg o)) (ha : PE X a (U X.K X.mg E ma)) (hb : PE X b (U X.K X.mg E mb)) (hm : behindInMarks op b = false) : PT X (.Compare a [op] [b] pos) (UT X.K X.mg E (tVal (mOp o ma mb))) :=
  PT.imp (pt_cmpR ho ha hb hm) fun σ H Q h => by
    obtain ⟨Hd, es, eh, xc, q, z⟩ := val_lift σ H Q h
    exact op_lift ho ha hb σ H _ ⟨Hd, es, eh, xc, q, z⟩
theorem rt_chain {op op' : CmpOp} {o o' : EO2} (ho : OpR X (compareOp op) (U2 X.K X.mg o)) (ho' : OpR X (compareOp op') (U2 X.K X.mg o')) (ha : PE X a (U X.K X.mg E ma)) (hb : PE X b (U X.K X.mg E mb)) (hc : PE X c (U X.K X.mg E mc))
    (hm : lastMarks [op, op'] [b, c] = false := by with_unfolding_all rfl) : PT X (.Compare a [op, op'] [b, c] pos) (UT X.K X.mg E (tVal (mChain o o' ma mb mc))) :=
  PT.imp (pt_chain ho ho' ha hb hc hm) fun σ H Q h => chain_lift σ H _ (val_lift σ H Q h)
theorem tru_of {eh : Eh} {H : Hp} {x : EV} {v : V} {k : Bool} (R : Rh X.K X.mg Hd eh H) (r : Rp X.K X.mg Hd eh H x v) (e : truE eh x = some k) : TruV X.K v H k := by
  cases x with
  | non => cases r; cases e; exact rfl
  | bl b => cases r; cases e; exact rfl
  | int i => cases r; cases e; exact rfl
  | str x => cases r; simp only [truE] at e; split at e
             · rename_i z; cases e; exact ⟨z, rfl⟩
             · cases e
  | tup xs =>
    obtain ⟨p, vs, rfl, h, t⟩ := r
    cases e
    exact .inr (.inl ⟨vs, h, by rw [t.isEmpty]⟩)
  | lst xs =>
    obtain ⟨p, vs, rfl, h, _, t⟩ := r
    cases e
    exact .inl ⟨vs, .inl (.inl h), by rw [t.isEmpty]⟩
  | ref p =>
    cases r
    simp only [truE] at e
    cases h : eh p with
    | none => rw [h] at e; cases e
    | some o =>
      have z := R.ob p o h
      rw [h] at e
      cases o with
      | lst xs =>
        obtain ⟨vs, h, t⟩ := z
        cases e
        exact .inl ⟨vs, .inl (.inl h), by rw [t.isEmpty]⟩
      | dct xs =>
        obtain ⟨vs, h, t⟩ := z
        cases e
        exact .inr (.inr ⟨vs, h, by rw [t.isEmpty]⟩)
      | ins C fs => cases e
  | _ => cases e
theorem rt_tru (ha : PE X a (U X.K X.mg E ma)) (he : ∀ whole, isTrue a X.env whole = (do let v ← whole; standAt a.pos; holding [v] (truthy v)) := by intro _; rfl) : PT X a (UT X.K X.mg E (tTru ma)) :=
  PT.imp (pt_truth ha he) fun σ H Q ⟨Hd, es, eh, xc, q, R, xo, m, k⟩ => ⟨Hd, es, eh, xc, _, R, xo, m, fun eh1 H1 x v s1 R1 r1 m1 => by
    cases h : truE eh1 x with
    | none => simp only [h] at m1
    | some b => simp only [h] at m1; exact ⟨b, tru_of R1 r1 h, k eh1 H1 b s1 R1 m1⟩⟩
theorem rw_and1 (h : PT X a (UT X.K X.mg E mt)) : PW X (.BoolOp .And [a] pos) (UT X.K X.mg E mt) := pw_and1 h
theorem rw_or1 (h : PT X a (UT X.K X.mg E mt)) : PW X (.BoolOp .Or [a] pos) (UT X.K X.mg E mt) := pw_or1 h
theorem rw_and {rest : List Expr} (h : PT X a (UT X.K X.mg E mt)) (h' : PW X (.BoolOp .And (b :: rest) pos) (UT X.K X.mg E mu)) : PW X (.BoolOp .And (a :: b :: rest) pos) (UT X.K X.mg E (tAnd mt mu)) :=
  PW.imp (pw_and h h') fun σ H Q ⟨Hd, es, eh, xc, q, R, xo, m, k⟩ => ⟨Hd, es, eh, xc, _, R, xo, m, fun eh1 H1 c s1 R1 m1 => by
    cases c with
    | true => exact iteT ⟨Hd, es, eh1, xc, q, R.step s1 R1, xo.step s1, m1, fun eh2 H2 b s2 R2 m2 => k eh2 H2 b (s1.trans s2) R2 m2⟩
    | false => exact iteF (k eh1 H1 false s1 R1 m1)⟩
theorem rw_or {rest : List Expr} (h : PT X a (UT X.K X.mg E mt)) (h' : PW X (.BoolOp .Or (b :: rest) pos) (UT X.K X.mg E mu)) : PW X (.BoolOp .Or (a :: b :: rest) pos) (UT X.K X.mg E (tOr mt mu)) :=
  PW.imp (pw_or h h') fun σ H Q ⟨Hd, es, eh, xc, q, R, xo, m, k⟩ => ⟨Hd, es, eh, xc, _, R, xo, m, fun eh1 H1 c s1 R1 m1 => by
    cases c with
    | false => exact iteF ⟨Hd, es, eh1, xc, q, R.step s1 R1, xo.step s1, m1, fun eh2 H2 b s2 R2 m2 => k eh2 H2 b (s1.trans s2) R2 m2⟩
    | true => exact iteT (k eh1 H1 true s1 R1 m1)⟩
theorem rt_not (h : PT X a (UT X.K X.mg E mt)) : PT X (.UnaryOp .Not a pos) (UT X.K X.mg E (tNot mt)) :=
  PT.imp (pt_not h) fun σ H Q ⟨Hd, es, eh, xc, q, R, xo, m, k⟩ => ⟨Hd, es, eh, xc, _, R, xo, m, fun eh1 H1 c s1 R1 m1 => k eh1 H1 (!c) s1 R1 m1⟩
theorem re_ifE {c : Expr} (hc : PT X c (UT X.K X.mg E mt)) (ha : PE X a (U X.K X.mg E ma)) (hb : PE X b (U X.K X.mg E mb)) : PE X (.IfExp c a b pos) (U X.K X.mg E (mIf mt ma mb)) :=
  PE.imp (pe_ifExp hc ha hb) fun σ H Q ⟨Hd, es, eh, xc, q, R, xo, m, k⟩ => ⟨Hd, es, eh, xc, _, R, xo, m, fun eh1 H1 c s1 R1 m1 => by
    cases c with
    | true => exact iteT ⟨Hd, es, eh1, xc, q, R.step s1 R1, xo.step s1, m1, fun eh2 H2 x v s2 => k eh2 H2 x v (s1.trans s2)⟩
    | false => exact iteF ⟨Hd, es, eh1, xc, q, R.step s1 R1, xo.step s1, m1, fun eh2 H2 x v s2 => k eh2 H2 x v (s1.trans s2)⟩⟩
/-- and, or, not as values of bools -/
theorem re_one {op} (h : PE X a (U X.K X.mg E ma)) : PE X (.BoolOp op [a] pos) (U X.K X.mg E ma) := pe_one h
theorem re_and {rest : List Expr} (ha : PE X a (U X.K X.mg E ma)) (hb : PE X (.BoolOp .And (b :: rest) pos) (U X.K X.mg E mb)) : PE X (.BoolOp .And (a :: b :: rest) pos) (U X.K X.mg E (mAnd ma mb)) :=
  PE.imp (pe_and ha hb) fun σ H Q ⟨Hd, es, eh, xc, q, R, xo, m, k⟩ => ⟨Hd, es, eh, xc, _, R, xo, m, fun eh1 H1 x v s1 R1 r1 m1 => by
    cases x with
    | bl c =>
      cases r1
      refine ⟨c, rfl, ?_⟩
      cases c with
      | true => exact iteT ⟨Hd, es, eh1, xc, q, R.step s1 R1, xo.step s1, m1, fun eh2 H2 x v s2 => k eh2 H2 x v (s1.trans s2)⟩
      | false => exact iteF (k eh1 H1 (.bl false) (.bl false) s1 R1 rfl m1)
    | _ => exact m1.elim⟩
theorem re_or {rest : List Expr} (ha : PE X a (U X.K X.mg E ma)) (hb : PE X (.BoolOp .Or (b :: rest) pos) (U X.K X.mg E mb)) : PE X (.BoolOp .Or (a :: b :: rest) pos) (U X.K X.mg E (mOr ma mb)) :=
  PE.imp (pe_or ha hb) fun σ H Q ⟨Hd, es, eh, xc, q, R, xo, m, k⟩ => ⟨Hd, es, eh, xc, _, R, xo, m, fun eh1 H1 x v s1 R1 r1 m1 => by
    cases x with
    | bl c =>
      cases r1
      refine ⟨c, rfl, ?_⟩
      cases c with
      | false => exact iteF ⟨Hd, es, eh1, xc, q, R.step s1 R1, xo.step s1, m1, fun eh2 H2 x v s2 => k eh2 H2 x v (s1.trans s2)⟩
      | true => exact iteT (k eh1 H1 (.bl true) (.bl true) s1 R1 rfl m1)
    | _ => exact m1.elim⟩
theorem re_not (ha : PE X a (U X.K X.mg E ma)) : PE X (.UnaryOp .Not a pos) (U X.K X.mg E (mNot ma)) :=
  PE.imp (pe_not ha) fun σ H Q ⟨Hd, es, eh, xc, q, R, xo, m, k⟩ => ⟨Hd, es, eh, xc, _, R, xo, m, fun eh1 H1 x v s1 R1 r1 m1 => by
    cases x with
    | bl c => cases r1; exact ⟨c, rfl, k eh1 H1 (.bl (!c)) (.bl (!c)) s1 R1 rfl m1⟩
    | _ => exact m1.elim⟩

/-! ### argument lists, displays -/
theorem ra_nil : PA X [] (UA X.K X.mg E aNil) := PA.imp pa_nil fun σ H Q ⟨Hd, es, eh, xc, q, R, xo, m, k⟩ => k eh H [] [] .refl R.obj rfl m
theorem ra_cons {es : List Expr} {mr : MA} (ha : PE X e (U X.K X.mg E ma)) (hr : PA X es (UA X.K X.mg E mr)) (hs : starEach (e :: es) X.env = (false, eval e X.env) :: starEach es X.env := by rfl) : PA X (e :: es) (UA X.K X.mg E (aCons ma mr)) :=
  PA.imp (pa_cons ha hr hs) fun σ H Q ⟨Hd, es, eh, xc, q, R, xo, m, k⟩ => ⟨Hd, es, eh, xc, _, R, xo, m, fun eh1 H1 x v s1 R1 r1 m1 =>
    ⟨Hd, es, eh1, xc, _, R.step s1 R1, xo.step s1, m1, fun eh2 H2 xs vs s2 R2 r2 m2 => k eh2 H2 _ _ (s1.trans s2) R2 (.cons (r1.step s2) r2) m2⟩⟩
theorem Rh.fresh {K mg Hd} {eh : Eh} {H : Hp} (R : Rh K mg Hd eh H) {p : Addr} (h : H p = none) : eh p = none := by
  cases e : eh p with
  | none => rfl
  | some o =>
    have z := R.ob p o e
    cases o with
    | lst xs => obtain ⟨_, q, _⟩ := z; rw [h] at q; cases q
    | dct xs => obtain ⟨_, q, _⟩ := z; rw [h] at q; cases q
    | ins C fs => obtain ⟨_, _, _, _, q, _⟩ := z; rw [h] at q; cases q
theorem Step.new {eh : Eh} {H : Hp} {p : Addr} {o : HO} {eo : Option EO} (h : H p = none) : Step eh H (eupd eh p eo) (upd H p o) :=
  ⟨fun a u hu n _ => ⟨by rw [upd_ne (ne_of_none hu h)]; exact hu, by rw [eupd_ne (ne_of_none hu h)]; exact n⟩, fun a u hu => by rw [upd_ne (ne_of_none hu h)]; exact hu, fun a u w hu => by rw [upd_ne (ne_of_none hu h)]; exact hu⟩
theorem Step.newF {eh : Eh} {H : Hp} {p : Addr} {o : HO} (h : H p = none) : Step eh H eh (upd H p o) :=
  ⟨fun a u hu n _ => ⟨by rw [upd_ne (ne_of_none hu h)]; exact hu, n⟩, fun a u hu => by rw [upd_ne (ne_of_none hu h)]; exact hu, fun a u w hu => by rw [upd_ne (ne_of_none hu h)]; exact hu⟩
theorem RpO.step' {K mg Hd} {eh eh' : Eh} {H H' : Hp} {a : Addr} {o : EO} (s : Step eh H eh' H') (e : H' a = H a) (h : RpO K mg Hd eh H a o) : RpO K mg Hd eh' H' a o := by
  cases o with
  | lst xs => obtain ⟨vs, q, r⟩ := h; exact ⟨vs, e.trans q, r.step s⟩
  | dct xs => obtain ⟨vs, q, r⟩ := h; exact ⟨vs, e.trans q, r.step s⟩
  | ins C fs => obtain ⟨c, dx, us, m, q, r⟩ := h; exact ⟨c, dx, us, m, e.trans q, r.step s⟩
theorem RpO.some {K mg Hd} {eh : Eh} {H : Hp} {a : Addr} {o : EO} (h : RpO K mg Hd eh H a o) : ∃ u, H a = some u ∧ Mut (some u) ∧ (∀ xs, u ≠ .tup xs) ∧ (∀ x y, u ≠ .frz x y) ∧ (∀ ps, u ≠ .tbl ps) ∧ ∀ φ, u ≠ .ext φ := by
  cases o with
  | lst xs => obtain ⟨vs, q, r⟩ := h; exact ⟨_, q, trivial, (fun _ z => nomatch z), (fun _ _ z => nomatch z), (fun _ z => nomatch z), fun _ z => nomatch z⟩
  | dct xs => obtain ⟨vs, q, r⟩ := h; exact ⟨_, q, trivial, (fun _ z => nomatch z), (fun _ _ z => nomatch z), (fun _ z => nomatch z), fun _ z => nomatch z⟩
  | ins C fs => obtain ⟨c, dx, us, m, q, r⟩ := h; exact ⟨_, q, trivial, (fun _ z => nomatch z), (fun _ _ z => nomatch z), (fun _ z => nomatch z), fun _ z => nomatch z⟩
theorem tabs_new {T : List (Addr × Str)} {H : Hp} {p : Addr} {o : HO} (t : LamX.Tabs T H) (h : H p = none) : LamX.Tabs T (upd H p o) := t.ext fun b u e => by rw [upd_ne (ne_of_none e h)]; exact e
theorem tabs_write {T : List (Addr × Str)} {H : Hp} {p : Addr} {o u : HO} (t : LamX.Tabs T H) (h : H p = some u) (h1 : ∀ ps, u ≠ .tbl ps) (h2 : ∀ φ, u ≠ .ext φ) : LamX.Tabs T (upd H p o) := fun q hq => by
  obtain ⟨ps, a, b, c⟩ := t q hq
  refine ⟨ps, by rw [upd_ne fun z => by rw [z, h] at a; exact h1 _ (Option.some.inj a)]; exact a, b, fun pos cv e => ?_⟩
  obtain ⟨c', e1, e2⟩ := c pos cv e
  exact ⟨c', e1, by rw [upd_ne fun z => by rw [z, h] at e2; exact h2 _ (Option.some.inj e2)]; exact e2⟩
theorem Rh.notHid {K mg Hd} {eh : Eh} {H : Hp} (R : Rh K mg Hd eh H) {p : Addr} (h : H p = none) : ¬ Hd p := fun z => by
  obtain ⟨⟨o, e⟩, _⟩ := R.hd p z; rw [h] at e; cases e
theorem Rh.newF {K mg Hd} {eh : Eh} {H : Hp} {p : Addr} {o : HO} (R : Rh K mg Hd eh H) (h : H p = none) : Rh K mg Hd eh (upd H p o) := ⟨tabs_new R.tb h, fun a u e => by
  have z := R.ob a u e
  obtain ⟨w, hw, _⟩ := z.some
  exact z.step' (.newF h) (upd_ne (ne_of_none hw h)), fun a z => by
  obtain ⟨⟨w, hw⟩, n⟩ := R.hd a z
  exact ⟨⟨w, by rw [upd_ne (ne_of_none hw h)]; exact hw⟩, n⟩⟩
theorem Rh.new {K mg Hd} {eh : Eh} {H : Hp} {p : Addr} {o : HO} {eo : EO} (R : Rh K mg Hd eh H) (h : H p = none) (n : RpO K mg Hd (eupd eh p (some eo)) (upd H p o) p eo) : Rh K mg Hd (eupd eh p (some eo)) (upd H p o) := ⟨tabs_new R.tb h, fun a u e => by
  by_cases ha : a = p
  · subst ha; rw [eupd_same] at e; cases e; exact n
  · rw [eupd_ne ha] at e
    have z := R.ob a u e
    obtain ⟨w, hw, _⟩ := z.some
    exact z.step' (.new h) (upd_ne ha), fun a z => by
  obtain ⟨⟨w, hw⟩, n⟩ := R.hd a z
  exact ⟨⟨w, by rw [upd_ne (ne_of_none hw h)]; exact hw⟩, by rw [eupd_ne (ne_of_none hw h)]; exact n⟩⟩
theorem Step.write {K mg Hd} {eh : Eh} {H : Hp} {p : Addr} {o : HO} {u : EO} {eo : Option EO} (R : Rh K mg Hd eh H) (h : eh p = some u) : Step eh H (eupd eh p eo) (upd H p o) := by
  obtain ⟨w, hw, mu, nt, nf, _⟩ := (R.ob p u h).some
  have na : ∀ a, eh a = none → a ≠ p := fun a n z => by rw [z, h] at n; cases n
  refine ⟨fun a u hu n _ => ⟨by rw [upd_ne (na a n)]; exact hu, by rw [eupd_ne (na a n)]; exact n⟩, fun a xs hu => ?_, fun a x y hu => ?_⟩
  · rw [upd_ne fun z => ?_]; exact hu
    subst z; rw [hw] at hu; exact nt _ (Option.some.inj hu)
  · rw [upd_ne fun z => ?_]; exact hu
    subst z; rw [hw] at hu; exact nf _ _ (Option.some.inj hu)
theorem Rh.write {K mg Hd} {eh : Eh} {H : Hp} {p : Addr} {o : HO} {u eo : EO} (R : Rh K mg Hd eh H) (h : eh p = some u) (n : RpO K mg Hd (eupd eh p (some eo)) (upd H p o) p eo) : Rh K mg Hd (eupd eh p (some eo)) (upd H p o) := ⟨(by obtain ⟨w, hw, _, _, _, h1, h2⟩ := (R.ob p u h).some; exact tabs_write R.tb hw h1 h2), fun a w e => by
  by_cases ha : a = p
  · subst ha; rw [eupd_same] at e; cases e; exact n
  · rw [eupd_ne ha] at e
    exact (R.ob a w e).step' (.write R h) (upd_ne ha), fun a z => by
  obtain ⟨⟨w, hw⟩, n⟩ := R.hd a z
  have na : a ≠ p := fun e => by rw [e, h] at n; cases n
  exact ⟨⟨w, by rw [upd_ne na]; exact hw⟩, by rw [eupd_ne na]; exact n⟩⟩
theorem re_tup {es : List Expr} {mr : MA} {x1} (h : PA X es (UA X.K X.mg E mr)) : PE X (.Tuple es x1 pos) (U X.K X.mg E (mTup mr)) :=
  PE.imp (pe_tup h) fun σ H Q ⟨Hd, es, eh, xc, q, R, xo, m, k⟩ => ⟨Hd, es, eh, xc, _, R, xo, m, fun eh1 H1 xs vs s1 R1 r1 m1 =>
    ⟨by rw [← r1.length]; exact m1.1, fun p hp => k eh1 _ (.tup xs) (.ref p) (s1.trans (.newF hp)) (R1.newF hp) ⟨p, vs, rfl, .inl (.inl upd_same), r1.step (.newF hp)⟩ m1.2⟩⟩
theorem re_lst {es : List Expr} {mr : MA} (h : PA X es (UA X.K X.mg E mr)) : PE X (.List es pos) (U X.K X.mg E (mLst mr)) :=
  PE.imp (pe_lst h) fun σ H Q ⟨Hd, es, eh, xc, q, R, xo, m, k⟩ => ⟨Hd, es, eh, xc, _, R, xo, m, fun eh1 H1 xs vs s1 R1 r1 m1 =>
    ⟨by rw [← r1.length]; exact m1.1, fun p hp => k eh1 _ (.lst xs) (.ref p) (s1.trans (.newF hp)) (R1.newF hp) ⟨p, vs, rfl, upd_same, ⟨R1.fresh hp, R1.notHid hp⟩, r1.step (.newF hp)⟩ m1.2⟩⟩
theorem re_lstR {es : List Expr} {mr : MA} (h : PA X es (UA X.K X.mg E mr)) : PE X (.List es pos) (U X.K X.mg E (mLstR mr)) :=
  PE.imp (pe_lst h) fun σ H Q ⟨Hd, es, eh, xc, q, R, xo, m, k⟩ => ⟨Hd, es, eh, xc, _, R, xo, m, fun eh1 H1 xs vs s1 R1 r1 m1 =>
    ⟨by rw [← r1.length]; exact m1.1, fun p hp => k _ _ (.ref p) (.ref p) (s1.trans (.new hp)) (R1.new (eo := .lst xs) hp ⟨vs, upd_same, r1.step (.new hp)⟩) rfl (m1.2 p (R1.fresh hp))⟩⟩
end

/-! ### statements -/
def sNext : MS := fun _ d es eh => d.nx es eh
def sSeq (t u : MS) : MS := fun xc d es eh => t xc { d with nx := fun es' eh' => u xc d es' eh' } es eh
def sBreak : MS := fun _ d es eh => d.bk es eh
def sCont : MS := fun _ d es eh => d.ct es eh
def sExpr (m : ME) : MS := fun xc d es eh => m xc es eh fun _ eh1 => d.nx es eh1
def sRet (m : ME) : MS := fun xc d es eh => m xc es eh d.rt
def sRetN : MS := fun _ d _ eh => d.rt .non eh
def sIf (c : MT) (t u : MS) : MS := fun xc d es eh => c xc es eh fun b eh1 => match b with | true => t xc d es eh1 | false => u xc d es eh1
def sNever : MS := fun _ _ _ _ => False
def sSet (i : Nat) (m : ME) : MS := fun xc d es eh => m xc es eh fun x eh1 => d.nx (es.set i (some x)) eh1
section
variable {X : Cx} {E : XK} {e : Expr} {ma : ME} {mt : MT} {pos : Pos} {st : Stmt} {rest : List Stmt} {ms mu : MS}
theorem rs_nil : PSs X [] (US X.K X.mg E sNext) := PSs.imp pss_nil fun D σ H ⟨Hd, es, eh, xc, d, R, xo, m, k1, k2, k3, k4⟩ => k1 es eh σ H .refl R m
theorem rs_one (h : PS X st (US X.K X.mg E ms)) : PSs X [st] (US X.K X.mg E ms) := pss_one h
theorem rs_cons (h1 : PS X st (US X.K X.mg E ms)) (h2 : PSs X rest (US X.K X.mg E mu)) : PSs X (st :: rest) (US X.K X.mg E (sSeq ms mu)) :=
  PSs.imp (pss_cons h1 h2) fun D σ H ⟨Hd, es, eh, xc, d, R, xo, m, k1, k2, k3, k4⟩ => ⟨Hd, es, eh, xc, _, R, xo, m, fun es1 eh1 σ1 H1 s1 R1 m1 =>
    ⟨Hd, es1, eh1, xc, d, R1, xo.step s1, m1, fun es2 eh2 σ2 H2 s2 => k1 es2 eh2 σ2 H2 (s1.trans s2), fun eh2 H2 x v s2 => k2 eh2 H2 x v (s1.trans s2), fun es2 eh2 σ2 H2 s2 => k3 es2 eh2 σ2 H2 (s1.trans s2), fun es2 eh2 σ2 H2 s2 => k4 es2 eh2 σ2 H2 (s1.trans s2)⟩, k2, k3, k4⟩
theorem rs_pass : PS X (.Pass pos) (US X.K X.mg E sNext) := PS.imp ps_pass fun D σ H ⟨Hd, es, eh, xc, d, R, xo, m, k1, k2, k3, k4⟩ => k1 es eh σ H .refl R m
theorem rs_break : PS X (.Break pos) (US X.K X.mg E sBreak) := PS.imp ps_break fun D σ H ⟨Hd, es, eh, xc, d, R, xo, m, k1, k2, k3, k4⟩ => k3 es eh σ H .refl R m
theorem rs_cont : PS X (.Continue pos) (US X.K X.mg E sCont) := PS.imp ps_continue fun D σ H ⟨Hd, es, eh, xc, d, R, xo, m, k1, k2, k3, k4⟩ => k4 es eh σ H .refl R m
theorem rs_doc {x j pos'} : PS X (.Expr (.Constant (.str x) j pos) pos') (US X.K X.mg E sNext) := PS.imp ps_doc fun D σ H ⟨Hd, es, eh, xc, d, R, xo, m, k1, k2, k3, k4⟩ => k1 es eh σ H .refl R m
theorem rs_never : PS X st (US X.K X.mg E sNever) := PS.imp ps_never fun D σ H ⟨Hd, es, eh, xc, d, R, xo, m, k1, k2, k3, k4⟩ => m.elim
theorem rs_expr (he : PE X e (U X.K X.mg E ma)) (hs : swapsWith e none pos.line X.env = pure false := by rfl) : PS X (.Expr e pos) (US X.K X.mg E (sExpr ma)) :=
  PS.imp (ps_expr he hs) fun D σ H ⟨Hd, es, eh, xc, d, R, xo, m, k1, k2, k3, k4⟩ => ⟨Hd, es, eh, xc, _, R, xo, m, fun eh1 H1 x v s1 R1 r1 m1 => k1 es eh1 σ H1 s1 (R.step s1 R1) m1⟩
theorem rs_ret (he : PE X e (U X.K X.mg E ma)) : PS X (.Return (some e) pos) (US X.K X.mg E (sRet ma)) :=
  PS.imp (ps_ret he) fun D σ H ⟨Hd, es, eh, xc, d, R, xo, m, k1, k2, k3, k4⟩ => ⟨Hd, es, eh, xc, _, R, xo, m, k2⟩
theorem rs_retN : PS X (.Return none pos) (US X.K X.mg E sRetN) :=
  PS.imp ps_retN fun D σ H ⟨Hd, es, eh, xc, d, R, xo, m, k1, k2, k3, k4⟩ => k2 eh H .non .non .refl R.obj rfl m
theorem rs_if {c : Expr} {a b : List Stmt} (hc : PT X c (UT X.K X.mg E mt)) (ha : PSs X a (US X.K X.mg E ms)) (hb : PSs X b (US X.K X.mg E mu)) : PS X (.If c a b pos) (US X.K X.mg E (sIf mt ms mu)) :=
  PS.imp (ps_if hc ha hb) fun D σ H ⟨Hd, es, eh, xc, d, R, xo, m, k1, k2, k3, k4⟩ => ⟨Hd, es, eh, xc, _, R, xo, m, fun eh1 H1 c s1 R1 m1 => by
    cases c with
    | true => exact iteT ⟨Hd, es, eh1, xc, d, R.step s1 R1, xo.step s1, m1, fun es2 eh2 σ2 H2 s2 => k1 es2 eh2 σ2 H2 (s1.trans s2), fun eh2 H2 x v s2 => k2 eh2 H2 x v (s1.trans s2), fun es2 eh2 σ2 H2 s2 => k3 es2 eh2 σ2 H2 (s1.trans s2), fun es2 eh2 σ2 H2 s2 => k4 es2 eh2 σ2 H2 (s1.trans s2)⟩
    | false => exact iteF ⟨Hd, es, eh1, xc, d, R.step s1 R1, xo.step s1, m1, fun es2 eh2 σ2 H2 s2 => k1 es2 eh2 σ2 H2 (s1.trans s2), fun eh2 H2 x v s2 => k2 eh2 H2 x v (s1.trans s2), fun es2 eh2 σ2 H2 s2 => k3 es2 eh2 σ2 H2 (s1.trans s2), fun es2 eh2 σ2 H2 s2 => k4 es2 eh2 σ2 H2 (s1.trans s2)⟩⟩
theorem Rl.set {K mg Hd} {eh : Eh} {H : Hp} {es : Es} {σ : L2.St} {i : Nat} {x : EV} {v : V} (R : Rl K mg Hd eh H es σ) (r : Rp K mg Hd eh H x v) : Rl K mg Hd eh H (es.set i (some x)) (σ.set i (some v)) := by
  refine ⟨by simp [R.len], fun j y e => ?_, R.obj⟩
  by_cases h : i = j
  · subst h
    rw [List.getElem?_set] at e
    simp only [ite_true] at e
    split at e
    · rename_i hl
      cases e
      exact ⟨v, by rw [List.getElem?_set]; simp [R.len ▸ hl], r⟩
    · cases e
  · rw [List.getElem?_set_ne h] at e
    obtain ⟨w, hw, q⟩ := R.loc j y e
    exact ⟨w, by rw [List.getElem?_set_ne h]; exact hw, q⟩
theorem rs_set {i : Nat} {x : Str} {pos' : Pos} (hN : X.N.Nodup) (he : PE X e (U X.K X.mg E ma)) (hi : X.N[i]? = some x := by rfl) (hx : Loc X.env.scope x := by first | exact Or.inl rfl | exact Or.inr rfl) (hs : swapsWith e (some (.Name x pos')) pos.line X.env = pure false := by rfl)
    (hf : X.fn x = true ∨ X.env.scope.names.lookup x = some .local := by first | exact .inl rfl | exact .inr rfl) : PS X (.Assign [.Name x pos'] e pos) (US X.K X.mg E (sSet i ma)) :=
  PS.imp (ps_set hN hi hx he hs hf) fun D σ H ⟨Hd, es, eh, xc, d, R, xo, m, k1, k2, k3, k4⟩ => ⟨Hd, es, eh, xc, _, R, xo, m, fun eh1 H1 x v s1 R1 r1 m1 => k1 _ eh1 _ H1 s1 ((R.step s1 R1).set r1) m1⟩
end
end VM

/-! VM3: operators by values: +, -, *, //, %, **, comparisons, in, is, subscripts, slices; data read off the heap (Dat). -/
namespace VM
open PySem PySem.Spec PyProof.Rows L2

/-! ### data -/
inductive Dat (eh : Eh) : EV → PyData → Prop
  | non : Dat eh .non .none
  | bl (b) : Dat eh (.bl b) (.bool b)
  | int (i) : Dat eh (.int i) (.int i)
  | str (x) : Dat eh (.str x) (.str x)
  | scr (ns) : Dat eh (.scr ns) (.list (ns.map .int))
  | tup {xs : List EV} {ds : List PyData} : xs.length = ds.length → (∀ (i : Nat) x d, xs[i]? = some x → ds[i]? = some d → Dat eh x d) → Dat eh (.tup xs) (.tuple ds)
  | lst {xs : List EV} {ds : List PyData} : xs.length = ds.length → (∀ (i : Nat) x d, xs[i]? = some x → ds[i]? = some d → Dat eh x d) → Dat eh (.lst xs) (.list ds)
  | ref {a : Addr} {xs : List EV} {ds : List PyData} : eh a = some (.lst xs) → xs.length = ds.length → (∀ (i : Nat) x d, xs[i]? = some x → ds[i]? = some d → Dat eh x d) → Dat eh (.ref a) (.list ds)
mutual
def D : EV → PyData
  | .bl b => .bool b
  | .int i => .int i
  | .str x => .str x
  | .tup xs => .tuple (DL xs)
  | .lst xs => .list (DL xs)
  | _ => .none
def DL : List EV → List PyData
  | [] => []
  | x :: xs => D x :: DL xs
end
mutual
/-- data without references -/
def isD : EV → Bool
  | .non => true
  | .bl _ => true
  | .int _ => true
  | .str _ => true
  | .tup xs => isDL xs
  | .lst xs => isDL xs
  | _ => false
def isDL : List EV → Bool
  | [] => true
  | x :: xs => isD x && isDL xs
end
theorem DL_map : ∀ xs, DL xs = xs.map D
  | [] => rfl
  | x :: xs => by simp [DL, DL_map xs]
theorem isDL_all : ∀ xs, isDL xs = xs.all isD
  | [] => rfl
  | x :: xs => by simp [isDL, isDL_all xs]
mutual
theorem Dat.of (eh : Eh) : ∀ {x : EV}, isD x = true → Dat eh x (D x)
  | .non, _ => .non
  | .bl b, _ => .bl b
  | .int i, _ => .int i
  | .str x, _ => .str x
  | .tup xs, h => .tup (by rw [DL_map]; simp) (Dat.ofL eh (show isDL xs = true from h))
  | .lst xs, h => .lst (by rw [DL_map]; simp) (Dat.ofL eh (show isDL xs = true from h))
theorem Dat.ofL (eh : Eh) : ∀ {xs : List EV}, isDL xs = true → ∀ (i : Nat) x d, xs[i]? = some x → (DL xs)[i]? = some d → Dat eh x d
  | [], _, _, _, _, e, _ => by simp at e
  | x :: xs, h, 0, y, d, e, e' => by
    simp [DL] at e e'; subst e; subst e'
    exact Dat.of eh (by simp [isDL] at h; exact h.1)
  | x :: xs, h, i + 1, y, d, e, e' => Dat.ofL eh (by simp [isDL] at h; exact h.2) i y d (by simpa using e) (by simpa [DL] using e')
end

theorem readsAll_of {h : Heap} : ∀ {us : List Value} {ds : List PyData}, us.length = ds.length → (∀ (i : Nat) u d, us[i]? = some u → ds[i]? = some d → ∃ as, Reads h u d as) → ∃ as, ReadsAll h us ds as
  | [], [], _, _ => ⟨_, .nil⟩
  | u :: us, d :: ds, hl, k => by
    obtain ⟨as, r⟩ := k 0 u d rfl rfl
    obtain ⟨bs, t⟩ := readsAll_of (us := us) (ds := ds) (by simpa using hl) fun i u d e e' => k (i + 1) u d (by simpa using e) (by simpa using e')
    exact ⟨_, .cons r t⟩
  | [], _ :: _, hl, _ => by simp at hl
  | _ :: _, [], hl, _ => by simp at hl
theorem vals_get2 {vs : List V} {us : List Value} {i : Nat} {u : Value} (r : Vals vs us) (h : us[i]? = some u) : ∃ v, vs[i]? = some v ∧ RelV v u := by
  have hl := r.length
  obtain ⟨hi, e⟩ := List.getElem?_eq_some_iff.mp h
  have hv : vs[i]? = some (vs[i]'(by omega)) := List.getElem?_eq_getElem _
  obtain ⟨w, hw, q⟩ := r.get hv
  rw [h] at hw; cases hw
  exact ⟨_, hv, q⟩
section
variable {X : Cx} {pins : List (Addr × Obj)} {σ : L2.St} {H : Hp} {s : Shared} {eh : Eh}
theorem reads_items (I : Inv X pins σ H s) {xs : List EV} {vs : List V} {us : List Value} {ds : List PyData} (r : RpL X.K X.mg Hd eh H xs vs) (rv : Vals vs us) (hl : xs.length = ds.length)
    (ih : ∀ (i : Nat) x d, xs[i]? = some x → ds[i]? = some d → ∀ v u, Rp X.K X.mg Hd eh H x v → RelV v u → ∃ as, Reads s.heap u d as) : ∃ as, ReadsAll s.heap us ds as := by
  refine readsAll_of (by rw [← rv.length, ← r.length, hl]) fun i u d e e' => ?_
  obtain ⟨v, hv, q⟩ := vals_get2 rv e
  obtain ⟨x, hx, p⟩ := r.get' hv
  exact ih i x d hx e' v u p q
theorem Dat.reads (I : Inv X pins σ H s) (R : Rh X.K X.mg Hd eh H) {x : EV} {d : PyData} (h : Dat eh x d) : ∀ v u, Rp X.K X.mg Hd eh H x v → RelV v u → ∃ as, Reads s.heap u d as := by
  induction h with
  | non => intro v u r q; cases r; cases q; exact ⟨_, .none⟩
  | bl b => intro v u r q; cases r; cases q; exact ⟨_, .bool b⟩
  | int i => intro v u r q; cases r; obtain ⟨t, rfl⟩ := q; exact ⟨_, .int i t⟩
  | str x => intro v u r q; cases r; obtain ⟨t, rfl⟩ := q; exact ⟨_, .str x t⟩
  | scr ns =>
    intro v u r q
    obtain ⟨a, rfl, e⟩ := r
    cases q
    obtain ⟨its, rv, ⟨ob, n, e1, e2, e3, e4⟩, hz⟩ := I.list e.sq
    obtain ⟨as, t⟩ := readsAll_of (h := s.heap) (us := its) (ds := ns.map .int) (by rw [← rv.length]; simp) fun i u d hu hd => by
      obtain ⟨v, hv, q⟩ := vals_get2 rv hu
      simp only [List.getElem?_map, Option.map_eq_some_iff] at hv hd
      obtain ⟨n1, hn1, rfl⟩ := hv
      obtain ⟨n2, hn2, rfl⟩ := hd
      rw [hn1] at hn2; cases hn2
      obtain ⟨t, rfl⟩ := q
      exact ⟨_, .int _ t⟩
    exact ⟨_, .list e1 e2 e4 (by simpa using t)⟩
  | tup hl _ ih =>
    intro v u r q
    obtain ⟨a, vs, rfl, ht, r⟩ := r
    cases q
    obtain ⟨its, rv, ⟨o, e1, e2, n, e3⟩, hz⟩ := I.tuple ht
    obtain ⟨as, t⟩ := reads_items I r rv hl ih
    exact ⟨_, .tuple e1 e2 e3 (by simpa using t)⟩
  | lst hl _ ih =>
    intro v u r q
    obtain ⟨a, vs, rfl, ht, _, r⟩ := r
    cases q
    obtain ⟨its, rv, ⟨o, n, e1, e2, e3, e4⟩, hz⟩ := I.list (.inl (.inl ht))
    obtain ⟨as, t⟩ := reads_items I r rv hl ih
    exact ⟨_, .list e1 e2 e4 (by simpa using t)⟩
  | ref he hl _ ih =>
    intro v u r q
    cases r
    cases q
    obtain ⟨vs, ht, r⟩ := R.ob _ _ he
    obtain ⟨its, rv, ⟨o, n, e1, e2, e3, e4⟩, hz⟩ := I.list (.inl (.inl ht))
    obtain ⟨as, t⟩ := reads_items I r rv hl ih
    exact ⟨_, .list e1 e2 e4 (by simpa using t)⟩
end

/-! ### places that hold lists and tuples -/
def lstE (eh : Eh) : EV → Option (List EV)
  | .lst xs => some xs
  | .ref a => match eh a with | some (.lst xs) => some xs | _ => none
  | _ => none
/-- what is read as a sequence -/
def seqE (eh : Eh) : EV → Option (List EV)
  | .tup xs => some xs
  | .lst xs => some xs
  | .scr ns => some (ns.map .int)
  | .ref a => match eh a with | some (.lst xs) => some xs | _ => none
  | _ => none
def dctE (eh : Eh) : EV → Option (List (Key × EV))
  | .dct xs => some xs
  | .ref a => match eh a with | some (.dct xs) => some xs | _ => none
  | _ => none
section
variable {K : PySem.W.Frag} {mg : Str → Option Value} {Hd : Addr → Prop} {eh : Eh} {H : Hp}
theorem lst_of (R : Rh K mg Hd eh H) {x : EV} {v : V} {xs : List EV} (r : Rp K mg Hd eh H x v) (e : lstE eh x = some xs) : ∃ a vs, v = .ref a ∧ H a = some (.lst vs) ∧ RpL K mg Hd eh H xs vs := by
  cases x with
  | lst ys => cases e; obtain ⟨a, vs, e, h, _, t⟩ := r; exact ⟨a, vs, e, h, t⟩
  | ref a =>
    cases r
    simp only [lstE] at e
    cases h : eh a with
    | none => rw [h] at e; cases e
    | some o =>
      rw [h] at e
      cases o with
      | lst ys => cases e; obtain ⟨vs, h, t⟩ := R.ob a _ h; exact ⟨a, vs, rfl, h, t⟩
      | _ => cases e
  | _ => cases e
theorem seq_of (R : Rh K mg Hd eh H) {x : EV} {v : V} {xs : List EV} (r : Rp K mg Hd eh H x v) (e : seqE eh x = some xs) : ∃ a vs, v = .ref a ∧ (SqL K H a vs ∨ SqT K H a vs) ∧ RpL K mg Hd eh H xs vs := by
  cases x with
  | tup ys => cases e; obtain ⟨a, vs, e, h, t⟩ := r; exact ⟨a, vs, e, .inr h, t⟩
  | scr ns => cases e; obtain ⟨a, e, h⟩ := r; exact ⟨a, _, e, .inl h.sq, RpL.of_ints ns⟩
  | lst ys => cases e; obtain ⟨a, vs, e, h, _, t⟩ := r; exact ⟨a, vs, e, .inl (.inl (.inl h)), t⟩
  | ref a =>
    cases r
    simp only [seqE] at e
    cases h : eh a with
    | none => rw [h] at e; cases e
    | some o =>
      rw [h] at e
      cases o with
      | lst ys => cases e; obtain ⟨vs, h, t⟩ := R.ob a _ h; exact ⟨a, vs, rfl, .inl (.inl (.inl h)), t⟩
      | _ => cases e
  | _ => cases e
theorem dct_of (R : Rh K mg Hd eh H) {x : EV} {v : V} {xs : List (Key × EV)} (r : Rp K mg Hd eh H x v) (e : dctE eh x = some xs) : ∃ a us, v = .ref a ∧ Rd H a (.dK us) ∧ RpK K mg Hd eh H xs us := by
  cases x with
  | dct ys => cases e; obtain ⟨a, o, us, e, h, t⟩ := r; exact ⟨a, us, e, .inr ⟨o, h⟩, t⟩
  | ref a =>
    cases r
    simp only [dctE] at e
    cases h : eh a with
    | none => rw [h] at e; cases e
    | some o =>
      rw [h] at e
      cases o with
      | dct ys => cases e; obtain ⟨us, h, t⟩ := R.ob a _ h; exact ⟨a, us, rfl, .inl h, t⟩
      | _ => cases e
  | _ => cases e
end

/-! ### arithmetic -/
def MulC (i j : Int) : Prop := ((-(2 ^ 64) < i ∧ i < 2 ^ 64) ∨ (-(2 ^ 64) < j ∧ j < 2 ^ 64)) ∨ (Builtin.Int.intBits i : Int) + (Builtin.Int.intBits j : Int) ≤ 134217728
def oAdd : EO2 := fun x y eh q => match x, y with
  | .int i, .int j => q (.int (i + j)) eh
  | .str i, .str j => i.length + j.length ≤ sizeLine ∧ q (.str (i ++ j)) eh
  | .tup xs, .tup ys => xs ≠ [] ∧ xs.length + ys.length ≤ sizeLine ∧ q (.tup (xs ++ ys)) eh
  | x, y => ∃ xs ys, lstE eh x = some xs ∧ lstE eh y = some ys ∧ xs.length + ys.length ≤ sizeLine ∧ q (.lst (xs ++ ys)) eh
def oSub : EO2 := fun x y eh q => match x, y with
  | .int i, .int j => q (.int (i - j)) eh
  | _, _ => False
def oMul : EO2 := fun x y eh q => match x, y with
  | .int i, .int j => MulC i j ∧ q (.int (i * j)) eh
  | x, .int k => ∃ xs, lstE eh x = some xs ∧ -(2 ^ 63) ≤ k ∧ k < 2 ^ 63 ∧ xs.length * k.toNat ≤ sizeLine ∧ q (.lst (List.replicate k.toNat xs).flatten) eh
  | _, _ => False
def oDiv : EO2 := fun x y eh q => match x, y with
  | .int i, .int j => (0 < j ∧ j.natAbs.log2 < 9000) ∧ q (.int (i / j)) eh
  | _, _ => False
def oMod : EO2 := fun x y eh q => match x, y with
  | .int i, .int j => 0 < j ∧ q (.int (i % j)) eh
  | _, _ => False
def oPow : EO2 := fun x y eh q => match x, y with
  | .int i, .int j => (0 ≤ j ∧ (Builtin.Int.intBits i : Int) * j ≤ 2 ^ 27) ∧ q (.int (i ^ j.toNat)) eh
  | _, _ => False
def oNeg : EO1 := fun x eh q => match x with
  | .int i => q (.int (-i)) eh
  | _ => False
section
variable {X : Cx}
theorem vo_int {f : Value → Value → Sem Value} {C : Int → Int → Prop} {g : Int → Int → V} {g' : Int → Int → EV} {o : EO2} (h : OpR X f (rI C g)) (ho : ∀ x y eh q, o x y eh q → ∃ i j, x = .int i ∧ y = .int j ∧ C i j ∧ q (g' i j) eh)
    (hg : ∀ Hd eh H i j, Rp X.K X.mg Hd eh H (g' i j) (g i j)) : OpR X f (U2 X.K X.mg o) :=
  OpR.imp h fun v u H Q ⟨Hd, eh, x, y, q, R, rx, ry, m, k⟩ => by
    obtain ⟨i, j, rfl, rfl, c, m⟩ := ho x y eh q m
    cases rx; cases ry
    exact ⟨i, j, rfl, rfl, c, k eh H _ _ .refl R (hg _ _ _ _ _) m⟩
theorem vo_int0 {f : Value → Value → Sem Value} {g : Int → Int → V} {g' : Int → Int → EV} {o : EO2} (h : OpR X f (rI0 g)) (ho : ∀ x y eh q, o x y eh q → ∃ i j, x = .int i ∧ y = .int j ∧ q (g' i j) eh)
    (hg : ∀ Hd eh H i j, Rp X.K X.mg Hd eh H (g' i j) (g i j)) : OpR X f (U2 X.K X.mg o) :=
  OpR.imp h fun v u H Q ⟨Hd, eh, x, y, q, R, rx, ry, m, k⟩ => by
    obtain ⟨i, j, rfl, rfl, m'⟩ := ho x y eh q m
    cases rx; cases ry
    exact ⟨i, j, rfl, rfl, k eh H _ _ .refl R (hg _ _ _ _ _) m'⟩
theorem OpR.of2 {f : Value → Value → Sem Value} {o : EO2} (h : ∀ (x y : EV), ∃ r, OpR X f r ∧ ∀ Hd eh v u H Q q, Rh X.K X.mg Hd eh H → Rp X.K X.mg Hd eh H x v → Rp X.K X.mg Hd eh H y u → o x y eh q →
    (∀ eh' H' z w, Step eh H eh' H' → Rh X.K X.mg Hd eh' H' → Rp X.K X.mg Hd eh' H' z w → q z eh' → Q w H') → r v u H Q) : OpR X f (U2 X.K X.mg o) := by
  intro pins s σ H v u a b Q I r1 r2 ⟨Hd, eh, x, y, q, R, rx, ry, m, k⟩
  obtain ⟨r, hr, hm⟩ := h x y
  exact hr pins s σ H v u a b Q I r1 r2 (hm Hd eh v u H Q q R rx ry m k)
theorem OpR.false {f : Value → Value → Sem Value} : OpR X f (fun _ _ _ _ => False) := fun _ _ _ _ _ _ _ _ _ _ _ _ h => h.elim
theorem op_sub_int : OpR X (binaryOp .Sub) (U2 X.K X.mg oSub) := vo_int0 (g' := fun i j => .int (i - j)) op_sub (fun x y eh q h => by
  unfold oSub at h; split at h
  · exact ⟨_, _, rfl, rfl, h⟩
  · exact h.elim) fun _ _ _ _ _ => rfl
theorem op_div_int : OpR X (binaryOp .FloorDiv) (U2 X.K X.mg oDiv) := vo_int (g' := fun i j => .int (i / j)) op_fdivW (fun x y eh q h => by
  unfold oDiv at h; split at h
  · exact ⟨_, _, rfl, rfl, h.1, h.2⟩
  · exact h.elim) fun _ _ _ _ _ => rfl
theorem op_mod_int : OpR X (binaryOp .Mod) (U2 X.K X.mg oMod) := vo_int (g' := fun i j => .int (i % j)) op_mod (fun x y eh q h => by
  unfold oMod at h; split at h
  · exact ⟨_, _, rfl, rfl, h.1, h.2⟩
  · exact h.elim) fun _ _ _ _ _ => rfl
theorem op_powB : OpR X (binaryOp .Pow) (rI (fun i j => 0 ≤ j ∧ (Builtin.Int.intBits i : Int) * j ≤ 2 ^ 27) fun i j => .int (i ^ j.toNat)) := opI fun _ _ _ _ _ _ _ hc q => pow_int hc.1 hc.2 q
theorem op_pow_int : OpR X (binaryOp .Pow) (U2 X.K X.mg oPow) := vo_int (g' := fun i j => .int (i ^ j.toNat)) op_powB (fun x y eh q h => by
  unfold oPow at h; split at h
  · exact ⟨_, _, rfl, rfl, h.1, h.2⟩
  · exact h.elim) fun _ _ _ _ _ => rfl
theorem un_neg_int : UnR X (unaryOp .USub) (U1 X.K X.mg oNeg) := by
  intro pins s σ H v a Q I r1 ⟨Hd, eh, x, q, R, rx, m, k⟩
  unfold oNeg at m
  split at m
  · cases rx
    exact un_neg pins s σ H _ a Q I r1 ⟨_, rfl, k eh H (.int _) (.int _) .refl R rfl m⟩
  · exact m.elim
theorem op_cat2 : OpR X (binaryOp .Add) (U2 X.K X.mg fun x y eh q => ∃ xs ys, lstE eh x = some xs ∧ lstE eh y = some ys ∧ xs.length + ys.length ≤ sizeLine ∧ q (.lst (xs ++ ys)) eh) :=
  OpR.imp op_cat fun v u H Q ⟨Hd, eh, x, y, q, R, rx, ry, ⟨xs, ys, ex, ey, hl, m⟩, k⟩ => by
    obtain ⟨a, vs, rfl, ha, ra⟩ := lst_of R rx ex
    obtain ⟨b, us, rfl, hb, rb⟩ := lst_of R ry ey
    exact ⟨a, b, vs, us, rfl, rfl, ha, hb, by rw [← ra.length, ← rb.length]; exact hl, fun p hp => k eh _ (.lst (xs ++ ys)) (.ref p) (.newF hp) (R.newF hp) ⟨p, _, rfl, upd_same, ⟨R.fresh hp, R.notHid hp⟩, (ra.append rb).step (.newF hp)⟩ m⟩
theorem op_add_any : OpR X (binaryOp .Add) (U2 X.K X.mg oAdd) := by
  intro pins s σ H v u a b Q I r1 r2 ⟨Hd, eh, x, y, q, R, rx, ry, m, k⟩
  unfold oAdd at m
  split at m
  · cases rx; cases ry
    exact op_add pins s σ H _ _ a b Q I r1 r2 ⟨_, _, rfl, rfl, k eh H (.int _) (.int _) .refl R rfl m⟩
  · cases rx; cases ry
    exact op_add_str pins s σ H _ _ a b Q I r1 r2 ⟨_, _, rfl, rfl, m.1, k eh H (.str _) (.str _) .refl R rfl m.2⟩
  · rename_i xs ys
    obtain ⟨p, vs, rfl, hp, rp⟩ := rx
    obtain ⟨p', us, rfl, hp', rp'⟩ := ry
    refine op_catT pins s σ H _ _ a b Q I r1 r2 ⟨p, p', vs, us, rfl, rfl, hp, hp', ?_, by rw [← rp.length, ← rp'.length]; exact m.2.1, ?_, ?_⟩
    · intro z; subst z; have := rp.length; cases xs with
      | nil => exact m.1 rfl
      | cons _ _ => simp at this
    · intro z; subst z
      have : ys = [] := by cases ys with
        | nil => rfl
        | cons _ _ => have := rp'.length; simp at this
      subst this
      exact k eh H (.tup (xs ++ [])) (.ref p) .refl R ⟨p, vs, rfl, hp, by simpa using rp⟩ m.2.2
    · intro _ t ht
      exact k eh _ (.tup (xs ++ ys)) (.ref t) (.newF ht) (R.newF ht) ⟨t, _, rfl, .inl (.inl upd_same), (rp.append rp').step (.newF ht)⟩ m.2.2
  · exact op_cat2 pins s σ H v u a b Q I r1 r2 ⟨Hd, eh, x, y, q, R, rx, ry, m, k⟩
theorem op_mul_any : OpR X (binaryOp .Mult) (U2 X.K X.mg oMul) := by
  intro pins s σ H v u a b Q I r1 r2 ⟨Hd, eh, x, y, q, R, rx, ry, m, k⟩
  unfold oMul at m
  split at m
  · cases rx; cases ry
    obtain ⟨c | c, m⟩ := m
    · exact op_mul pins s σ H _ _ a b Q I r1 r2 ⟨_, _, rfl, rfl, c, k eh H (.int _) (.int _) .refl R rfl m⟩
    · exact op_mulX pins s σ H _ _ a b Q I r1 r2 ⟨_, _, rfl, rfl, c, k eh H (.int _) (.int _) .refl R rfl m⟩
  · cases ry
    obtain ⟨xs, ex, h1, h2, h3, m⟩ := m
    obtain ⟨p, vs, rfl, hp, rp⟩ := lst_of R rx ex
    refine op_rep pins s σ H _ _ a b Q I r1 r2 ⟨p, _, vs, rfl, rfl, hp, h1, h2, by rw [← rp.length]; exact h3, fun t ht => k eh _ (.lst _) (.ref t) (.newF ht) (R.newF ht) ⟨t, _, rfl, upd_same, ⟨R.fresh ht, R.notHid ht⟩, ?_⟩ m⟩
    rename_i kk _
    have : ∀ n : Nat, RpL X.K X.mg Hd eh (upd H t (.lst (List.replicate kk.toNat vs).flatten)) (List.replicate n xs).flatten (List.replicate n vs).flatten := by
      intro n
      induction n with
      | zero => exact rfl
      | succ n ih => simp only [List.replicate_succ, List.flatten_cons]; exact (rp.step (.newF ht)).append ih
    exact this _
  · exact m.elim

/-! ### comparisons -/
def cInt (p : Int → Int → Bool) : EO2 := fun x y eh q => match x, y with
  | .int i, .int j => q (.bl (p i j)) eh
  | _, _ => False
abbrev oLt : EO2 := cInt fun i j => decide (i < j)
abbrev oLe : EO2 := cInt fun i j => decide (i ≤ j)
abbrev oGt : EO2 := cInt fun i j => decide (j < i)
abbrev oGe : EO2 := cInt fun i j => decide (j ≤ i)
theorem cInt_ok {f : Value → Value → Sem Value} {p : Int → Int → Bool} (h : OpR X f (rI0 fun i j => .bl (p i j))) : OpR X f (U2 X.K X.mg (cInt p)) :=
  vo_int0 (g' := fun i j => .bl (p i j)) h (fun x y eh q h => by
    unfold cInt at h; split at h
    · exact ⟨_, _, rfl, rfl, h⟩
    · exact h.elim) fun _ _ _ _ _ => rfl
theorem op_lt_int : OpR X (compareOp .Lt) (U2 X.K X.mg oLt) := cInt_ok op_lt
theorem op_le_int : OpR X (compareOp .LtE) (U2 X.K X.mg oLe) := cInt_ok op_le
theorem op_gt_int : OpR X (compareOp .Gt) (U2 X.K X.mg oGt) := cInt_ok op_gt
theorem op_ge_int : OpR X (compareOp .GtE) (U2 X.K X.mg oGe) := cInt_ok op_ge
/-- two data compared -/
def cEq (neg : Bool) : EO2 := fun x y eh q => match x, y with
  | .int i, .int j => q (.bl (neg ^^ decide (i = j))) eh
  | .str i, .str j => q (.bl (neg ^^ decide (i = j))) eh
  | .bl i, .bl j => q (.bl (neg ^^ decide (i = j))) eh
  | .non, .non => q (.bl (neg ^^ true)) eh
  | x, y => ∃ d e, Dat eh x d ∧ Dat eh y e ∧ d.plain = true ∧ e.plain = true ∧ min d.depth e.depth ≤ 60 ∧ q (.bl (neg ^^ PyData.eqv d e)) eh
theorem op_eq_any {k : Nat} (hr : RoomG k X.A) : OpR X (compareOp .Eq) (U2 X.K X.mg (cEq false)) := by
  have hu := hr.units
  intro pins s σ H v u a b Q I r1 r2 ⟨Hd, eh, x, y, q, R, rx, ry, m, k⟩
  unfold cEq at m
  split at m
  · cases rx; cases ry
    exact op_eq pins s σ H _ _ a b Q I r1 r2 ⟨rfl, k eh H _ _ .refl R (by simp [Rp]) m⟩
  · cases rx; cases ry
    exact op_eq pins s σ H _ _ a b Q I r1 r2 ⟨rfl, k eh H _ _ .refl R (by simp [Rp]) m⟩
  · cases rx; cases ry
    exact op_eq pins s σ H _ _ a b Q I r1 r2 ⟨rfl, k eh H _ _ .refl R (by simp [Rp]) m⟩
  · cases rx; cases ry
    exact op_eq pins s σ H _ _ a b Q I r1 r2 ⟨rfl, k eh H _ _ .refl R (by simp [Rp]) m⟩
  · obtain ⟨d, e, hd, he, pd, pe, hz, m⟩ := m
    obtain ⟨as, ra⟩ := hd.reads I R _ _ rx r1
    obtain ⟨bs, rb⟩ := he.reads I R _ _ ry r2
    exact SeqAt.eq_plain ra rb pd pe (by omega) ⟨.bl (PyData.eqv d e), H, I, rfl, k eh H (.bl _) _ .refl R (by simp [Rp]) m⟩
theorem op_ne_any {k : Nat} (hr : RoomG k X.A) : OpR X (compareOp .NotEq) (U2 X.K X.mg (cEq true)) := by
  have hu := hr.units
  intro pins s σ H v u a b Q I r1 r2 ⟨Hd, eh, x, y, q, R, rx, ry, m, k⟩
  unfold cEq at m
  split at m
  · cases rx; cases ry
    exact op_ne pins s σ H _ _ a b Q I r1 r2 ⟨rfl, k eh H _ _ .refl R (by simp [Rp]) m⟩
  · cases rx; cases ry
    exact op_ne pins s σ H _ _ a b Q I r1 r2 ⟨rfl, k eh H _ _ .refl R (by simp [Rp]) m⟩
  · cases rx; cases ry
    exact op_ne pins s σ H _ _ a b Q I r1 r2 ⟨rfl, k eh H _ _ .refl R (by simp [Rp]) m⟩
  · cases rx; cases ry
    exact op_ne pins s σ H _ _ a b Q I r1 r2 ⟨rfl, k eh H _ _ .refl R (by simp [Rp]) m⟩
  · obtain ⟨d, e, hd, he, pd, pe, hz, m⟩ := m
    obtain ⟨as, ra⟩ := hd.reads I R _ _ rx r1
    obtain ⟨bs, rb⟩ := he.reads I R _ _ ry r2
    exact SeqAt.ne_plain ra rb pd pe (by omega) ⟨.bl (!PyData.eqv d e), H, I, rfl, k eh H (.bl _) _ .refl R (by simp [Rp]) m⟩
/-- is None, is not None -/
def cIsN (neg : Bool) : EO2 := fun x y eh q => match y with
  | .non => (match x with
    | .non => q (.bl (neg ^^ true)) eh
    | .glo _ => False
    | _ => q (.bl (neg ^^ false)) eh)
  | _ => False
theorem isN_of {K mg Hd} {eh : Eh} {H : Hp} {x : EV} {v : V} (r : Rp K mg Hd eh H x v) (h : ∀ y, x ≠ .glo y) : decide (v = .non) = (match x with | .non => true | _ => false) := by
  cases x with
  | non => cases r; rfl
  | glo y => exact absurd rfl (h y)
  | bl _ => cases r; rfl
  | int _ => cases r; rfl
  | str _ => cases r; rfl
  | ty _ => cases r; rfl
  | ref _ => cases r; rfl
  | scr _ => obtain ⟨a, rfl, _⟩ := r; rfl
  | tup _ => obtain ⟨a, vs, rfl, _⟩ := r; rfl
  | lst _ => obtain ⟨a, vs, rfl, _⟩ := r; rfl
  | dct _ => obtain ⟨a, o, vs, rfl, _⟩ := r; rfl
  | obj _ _ => obtain ⟨a, c, dx, us, rfl, _⟩ := r; rfl
  | exc _ _ => obtain ⟨a, c, d, u, rfl, _⟩ := r; rfl
  | exa _ _ _ => obtain ⟨a, c, d, u, ⟨rfl, _⟩, _⟩ := r; rfl
theorem op_is_n : OpR X (compareOp .Is) (U2 X.K X.mg (cIsN false)) :=
  OpR.imp op_isN fun v u H Q ⟨Hd, eh, x, y, q, R, rx, ry, m, k⟩ => by
    cases y with
    | non =>
      cases ry
      refine ⟨rfl, ?_⟩
      unfold cIsN at m
      cases x with
      | glo z => exact m.elim
      | _ => rw [isN_of rx (fun _ z => nomatch z)]; exact k eh H (.bl _) (.bl _) .refl R rfl m
    | _ => exact m.elim
theorem op_isnot_n : OpR X (compareOp .IsNot) (U2 X.K X.mg (cIsN true)) :=
  OpR.imp op_notN fun v u H Q ⟨Hd, eh, x, y, q, R, rx, ry, m, k⟩ => by
    cases y with
    | non =>
      cases ry
      refine ⟨rfl, ?_⟩
      unfold cIsN at m
      cases x with
      | glo z => exact m.elim
      | _ => rw [isN_of rx (fun _ z => nomatch z)]; exact k eh H (.bl _) (.bl _) .refl R rfl m
    | _ => exact m.elim
/-- in: a sequence of data, a text, a dict -/
def keyE : EV → Option Key
  | .int i => some (.inl i)
  | .str x => some (.inr x)
  | _ => none
theorem keyE_of {K mg Hd} {eh : Eh} {H : Hp} {x : EV} {v : V} {k : Key} (r : Rp K mg Hd eh H x v) (h : keyE x = some k) : v = kV k := by
  cases x with
  | int i => cases h; exact r
  | str i => cases h; exact r
  | _ => cases h
def getK : List (Key × EV) → Key → Option EV
  | [], _ => none
  | (k', x) :: r, k => if k' = k then some x else getK r k
def cIn (neg : Bool) : EO2 := fun x y eh q => match y with
  | .str z => (match x with
    | .str a => q (.bl (neg ^^ !(Builtin.Str.occurrences z a 0 z.length 1).isEmpty)) eh
    | _ => False)
  | y => (∃ ys ds d, seqE eh y = some ys ∧ ys.length = ds.length ∧ (∀ (i : Nat) z e, ys[i]? = some z → ds[i]? = some e → Dat eh z e) ∧ Dat eh x d ∧ PyData.plainAll ds = true ∧ d.plain = true ∧ d.depth ≤ 60 ∧
      q (.bl (neg ^^ ds.any fun e => PyData.eqv e d)) eh) ∨
    (∃ kvs k, dctE eh y = some kvs ∧ keyE x = some k ∧ q (.bl (neg ^^ (getK kvs k).isSome)) eh)
theorem lookup_valV {K mg Hd} {eh : Eh} {H : Hp} {k : Key} : ∀ {kvs : List (Key × EV)} {us : List (Key × V)}, RpK K mg Hd eh H kvs us → (∀ x, getK kvs k = some x → ∃ v, valV us k = some v ∧ Rp K mg Hd eh H x v) ∧ (getK kvs k = none → valV us k = none)
  | [], _, h => by cases h; exact ⟨fun _ e => by simp [getK] at e, fun _ => rfl⟩
  | (k', y) :: kvs, _, ⟨v, r, e, p, t⟩ => by
    subst e
    have ih := lookup_valV (k := k) t
    by_cases hk : k' = k
    · subst hk
      refine ⟨fun x e => ?_, fun e => ?_⟩
      · simp [getK] at e; subst e; exact ⟨v, by simp [valV], p⟩
      · simp [getK] at e
    · have e1 : getK ((k', y) :: kvs) k = getK kvs k := by simp [getK, hk]
      have e2 : valV ((k', v) :: r) k = valV r k := by simp [valV, List.find?_cons, hk]
      rw [e1, e2]; exact ih
theorem dget_rd {H : Hp} {a : Addr} {kvs : List (Key × V)} {k : Key} (e : Rd H a (.dK kvs)) : DGet H a (kV k) (valV kvs k) := .inl ⟨kvs, k, e, rfl, rfl⟩
theorem lookup_some {K mg Hd} {eh : Eh} {H : Hp} {k : Key} {kvs : List (Key × EV)} {us : List (Key × V)} (r : RpK K mg Hd eh H kvs us) : (valV us k).isSome = (getK kvs k).isSome := by
  have := lookup_valV (k := k) r
  cases e : getK kvs k with
  | none => rw [this.2 e]; rfl
  | some x => obtain ⟨v, h, _⟩ := this.1 x e; rw [h]; rfl
theorem op_in_any {k : Nat} (hr : RoomG k X.A) : OpR X (compareOp .In) (U2 X.K X.mg (cIn false)) := by
  have hu := hr.units
  intro pins s σ H v u a b Q I r1 r2 ⟨Hd, eh, x, y, q, R, rx, ry, m, k⟩
  unfold cIn at m
  split at m
  · split at m
    · cases rx; cases ry
      exact op_in_str pins s σ H _ _ a b Q I r1 r2 ⟨_, _, rfl, rfl, k eh H _ _ .refl R (by simp [Rp]) m⟩
    · exact m.elim
  · rcases m with ⟨ys, ds, d, es, hl, hi, hd, pa, pd, hz, m⟩ | ⟨kvs, kk, es, ek, m⟩
    · obtain ⟨p, vs, rfl, hp, rp⟩ := seq_of R ry es
      cases r2
      obtain ⟨as, ra⟩ := hd.reads I R _ _ rx r1
      rcases hp with hp | hp
      · obtain ⟨its, rv, ⟨o, n, e1, e2, e3, e4⟩, _⟩ := I.list hp
        obtain ⟨bs, rb⟩ := reads_items I rp rv hl fun i x d e e' v u p q => (hi i x d e e').reads I R v u p q
        exact SeqAt.in_list_data (.list e1 e2 e4 (by simpa using rb)) ra pa pd (by omega) ⟨.bl _, H, I, rfl, k eh H (.bl _) (.bl _) .refl R (by simp [Rp]) m⟩
      · obtain ⟨its, rv, ⟨o, e1, e2, n, e3⟩, _⟩ := I.tuple hp
        obtain ⟨bs, rb⟩ := reads_items I rp rv hl fun i x d e e' v u p q => (hi i x d e e').reads I R v u p q
        exact SeqAt.in_tuple_data (.tuple e1 e2 e3 (by simpa using rb)) ra pa pd (by omega) ⟨.bl _, H, I, rfl, k eh H (.bl _) (.bl _) .refl R (by simp [Rp]) m⟩
    · obtain ⟨p, us, rfl, hp, rp⟩ := dct_of R ry es
      cases r2
      have ev := keyE_of rx ek
      subst ev
      refine d_in (by omega) I (dget_rd hp) r1 fun s' I' => ⟨.bl _, H, I', rfl, ?_⟩
      rw [lookup_some rp]
      exact k eh H (.bl _) (.bl _) .refl R (by simp [Rp]) m
theorem op_notin_any {k : Nat} (hr : RoomG k X.A) : OpR X (compareOp .NotIn) (U2 X.K X.mg (cIn true)) := by
  have hu := hr.units
  intro pins s σ H v u a b Q I r1 r2 ⟨Hd, eh, x, y, q, R, rx, ry, m, k⟩
  unfold cIn at m
  split at m
  · split at m
    · cases rx; cases ry
      exact op_notin_str pins s σ H _ _ a b Q I r1 r2 ⟨_, _, rfl, rfl, k eh H (.bl _) (.bl _) .refl R (by simp [Rp]) m⟩
    · exact m.elim
  · rcases m with ⟨ys, ds, d, es, hl, hi, hd, pa, pd, hz, m⟩ | ⟨kvs, kk, es, ek, m⟩
    · obtain ⟨p, vs, rfl, hp, rp⟩ := seq_of R ry es
      cases r2
      obtain ⟨as, ra⟩ := hd.reads I R _ _ rx r1
      rcases hp with hp | hp
      · obtain ⟨its, rv, ⟨o, n, e1, e2, e3, e4⟩, _⟩ := I.list hp
        obtain ⟨bs, rb⟩ := reads_items I rp rv hl fun i x d e e' v u p q => (hi i x d e e').reads I R v u p q
        exact SeqAt.notIn_list_data (.list e1 e2 e4 (by simpa using rb)) ra pa pd (by omega) ⟨.bl _, H, I, rfl, k eh H (.bl _) (.bl _) .refl R (by simp [Rp]) m⟩
      · obtain ⟨its, rv, ⟨o, e1, e2, n, e3⟩, _⟩ := I.tuple hp
        obtain ⟨bs, rb⟩ := reads_items I rp rv hl fun i x d e e' v u p q => (hi i x d e e').reads I R v u p q
        exact SeqAt.notIn_tuple_data (.tuple e1 e2 e3 (by simpa using rb)) ra pa pd (by omega) ⟨.bl _, H, I, rfl, k eh H (.bl _) (.bl _) .refl R (by simp [Rp]) m⟩
    · obtain ⟨p, us, rfl, hp, rp⟩ := dct_of R ry es
      cases r2
      have ev := keyE_of rx ek
      subst ev
      refine d_notIn (by omega) I (dget_rd hp) r1 fun s' I' => ⟨.bl _, H, I', rfl, ?_⟩
      rw [lookup_some rp]
      exact k eh H (.bl _) (.bl _) .refl R (by simp [Rp]) m

/-! ### subscripts, slices -/
def oIx : EO2 := fun x y eh q => match x with
  | .str z => (match y with
    | .int i => z.length ≤ sizeLine ∧ ∃ c, atI z.cps.toList i = some c ∧ q (.str ⟨#[c]⟩) eh
    | _ => False)
  | x => (∃ xs i z, seqE eh x = some xs ∧ y = .int i ∧ atI xs i = some z ∧ q z eh) ∨ (∃ kvs k z, dctE eh x = some kvs ∧ keyE y = some k ∧ getK kvs k = some z ∧ q z eh)
theorem atI_rp {K mg Hd} {eh : Eh} {H : Hp} {xs : List EV} {vs : List V} {i : Int} {z : EV} (r : RpL K mg Hd eh H xs vs) (h : atI xs i = some z) : ∃ w, atI vs i = some w ∧ Rp K mg Hd eh H z w := by
  unfold atI at h ⊢
  rw [← r.length]
  cases e : ixN xs.length i with
  | none => rw [e] at h; cases h
  | some j => rw [e] at h; exact r.get h
theorem ix_any {k : Nat} (hr : RoomG k X.A) : IxR X (U2 X.K X.mg oIx) := by
  have hu := hr.units
  intro value slice pins s σ H v u a b Q I r1 r2 ⟨Hd, eh, x, y, q, R, rx, ry, m, k⟩ hs
  unfold oIx at m
  split at m
  · split at m
    · cases rx; cases ry
      obtain ⟨hz, c, hc, m⟩ := m
      exact ix_str value slice pins s σ H _ _ a b Q I r1 r2 ⟨_, _, c, rfl, rfl, hz, hc, k eh H (.str _) (.str _) .refl R rfl m⟩ hs
    · exact m.elim
  · rcases m with ⟨xs, i, z, es, rfl, hz, m⟩ | ⟨kvs, kk, z, es, ek, hz, m⟩
    · obtain ⟨p, vs, rfl, hp, rp⟩ := seq_of R rx es
      cases ry
      obtain ⟨w, hw, rw'⟩ := atI_rp rp hz
      rcases hp with hp | hp
      · exact ix_list value slice pins s σ H _ _ a b Q I r1 r2 ⟨p, vs, i, w, rfl, rfl, hp, hw, k eh H _ _ .refl R rw' m⟩ hs
      · exact ix_tup value slice pins s σ H _ _ a b Q I r1 r2 ⟨p, vs, i, w, rfl, rfl, hp, hw, k eh H _ _ .refl R rw' m⟩ hs
    · obtain ⟨p, us, rfl, hp, rp⟩ := dct_of R rx es
      cases r1
      have ev := keyE_of ry ek
      subst ev
      obtain ⟨w, hw, rw'⟩ := (lookup_valV (k := kk) rp).1 z hz
      have g : DGet H p (kV kk) (some w) := by rw [← hw]; exact dget_rd hp
      have tI := dict_typeIs I g
      unfold subscriptTail
      refine wpAny_bind ?_
      rw [getitemInPython_of_ne tI.not_modules]
      refine wpAny_bind (wpAny_specialOf tI PySem.F.slot_dict_getitem.lookup ?_)
      have fin : wpAny (model X.prog X.w) X.A (subscripted slice false (.ref p) b) (fun r s₃ => wpAny (model X.prog X.w) X.A (letTemporaryGo value (.ref p) r >>= fun _ => pure r) (EP X pins σ Q) X.xe s₃) X.xe s := by
        rw [hs]
        exact wpAny_operating (d_getItem (by omega) I g r2 fun w' s' I' rw2 => wpAny_bind (wpAny_letTemporaryGo (wpAny_pure ⟨w, H, I', rw2, k eh H _ _ .refl R rw' m⟩)))
      first
        | exact wpAny_pure (wpAny_bind fin)
        | exact wpAny_bind (wpAny_pure (wpAny_bind fin))
        | exact wpAny_bind fin
end
end VM

/-! VM4: targets, what is walked, for, while, comprehensions, calls of defs, bodies of defs. -/
namespace VM
open PySem PySem.Spec PyProof.Rows L2

/-! ### targets -/
inductive Tg where
  | nm (i : Nat) | tp (ts : List Tg)
mutual
def asg : Tg → EV → Es → Option Es
  | .nm i, x, es => some (es.set i (some x))
  | .tp ts, .tup xs, es => asgL ts xs es
  | .tp _, _, _ => none
def asgL : List Tg → List EV → Es → Option Es
  | [], [], es => some es
  | t :: ts, x :: xs, es => (asg t x es).bind fun es' => asgL ts xs es'
  | _, _, _ => none
end
mutual
def slots : Tg → List Nat
  | .nm i => [i]
  | .tp ts => slotsL ts
def slotsL : List Tg → List Nat
  | [] => []
  | t :: ts => slots t ++ slotsL ts
end
section
variable (K : PySem.W.Frag) (mg : Str → Option Value)
def UG (t : Tg) : TG := fun v σ H Q => ∃ Hd es eh x es', Rl K mg Hd eh H es σ ∧ Rp K mg Hd eh H x v ∧ asg t x es = some es' ∧
  ∀ σ', Rl K mg Hd eh H es' σ' → σ'.length = σ.length → (∀ i, i ∉ slots t → σ'[i]? = σ[i]?) → Q σ' H
def UGs (ts : List Tg) : TGs := fun vs σ H Q => ∃ Hd es eh xs es', Rl K mg Hd eh H es σ ∧ RpL K mg Hd eh H xs vs ∧ asgL ts xs es = some es' ∧
  ∀ σ', Rl K mg Hd eh H es' σ' → σ'.length = σ.length → (∀ i, i ∉ slotsL ts → σ'[i]? = σ[i]?) → Q σ' H
end
theorem asgL_length : ∀ {ts : List Tg} {xs : List EV} {es es' : Es}, asgL ts xs es = some es' → ts.length = xs.length
  | [], [], _, _, _ => rfl
  | t :: ts, x :: xs, es, es', h => by
    simp only [asgL, Option.bind_eq_some_iff] at h
    obtain ⟨_, _, h⟩ := h
    simp [asgL_length h]
  | [], _ :: _, _, _, h => by simp [asgL] at h
  | _ :: _, [], _, _, h => by simp [asgL] at h
section
variable {X : Cx} {pos : Pos}
theorem PG.imp {e : Expr} {t t' : TG} (h : PG X e t) (i : ∀ v σ H Q, t' v σ H Q → t v σ H Q) : PG X e t' := ⟨fun pins s σ H v u Q I r w => h.run pins s σ H v u Q I r (i v σ H Q w)⟩
theorem PGs.imp {e : List Expr} {t t' : TGs} (h : PGs X e t) (i : ∀ v σ H Q, t' v σ H Q → t v σ H Q) : PGs X e t' := ⟨fun pins s σ H v u Q I r w => h.run pins s σ H v u Q I r (i v σ H Q w)⟩
theorem rg_nm {i : Nat} {x : Str} (hN : X.N.Nodup) (hi : X.N[i]? = some x := by rfl) (hx : Loc X.env.scope x := by first | exact Or.inl rfl | exact Or.inr rfl) (hf : X.fn x = true ∨ X.env.scope.names.lookup x = some .local := by first | exact .inl rfl | exact .inr rfl) : PG X (.Name x pos) (UG X.K X.mg (.nm i)) :=
  PG.imp (pg_name hN hi hx hf) fun v σ H Q ⟨Hd, es, eh, x, es', R, r, e, k⟩ => by
    cases e
    exact k _ (R.set r) (by simp) fun j hj => List.getElem?_set_ne fun z => hj (by simp [slots, z])
theorem rgs_nil : PGs X [] (UGs X.K X.mg []) := PGs.imp pgs_nil fun v σ H Q ⟨Hd, es, eh, xs, es', R, r, e, k⟩ => by
  have hl := asgL_length e
  cases xs with
  | cons _ _ => simp at hl
  | nil => cases r; cases e; exact ⟨rfl, k σ R rfl fun _ _ => rfl⟩
theorem rgs_cons {e : Expr} {es : List Expr} {t : Tg} {ts : List Tg} (h1 : PG X e (UG X.K X.mg t)) (h2 : PGs X es (UGs X.K X.mg ts))
    (hs : (assignEach (e :: es) X.env).map (·.2) = assign e X.env :: (assignEach es X.env).map (·.2) := by rfl) : PGs X (e :: es) (UGs X.K X.mg (t :: ts)) :=
  PGs.imp (pgs_cons h1 h2 hs) fun v σ H Q ⟨Hd, es, eh, xs, es', R, r, e, k⟩ => by
    cases xs with
    | nil => simp [asgL] at e
    | cons x xs =>
      obtain ⟨v, vr, rfl, rx, rr⟩ := r
      simp only [asgL, Option.bind_eq_some_iff] at e
      obtain ⟨es1, e1, e2⟩ := e
      refine ⟨v, vr, rfl, Hd, es, eh, x, es1, R, rx, e1, fun σ1 R1 l1 s1 => ⟨Hd, es1, eh, xs, es', R1, rr, e2, fun σ2 R2 l2 s2 => k σ2 R2 (l2.trans l1) fun i hi => ?_⟩⟩
      have hi' : i ∉ slots t ∧ i ∉ slotsL ts := by simpa [slotsL] using hi
      exact (s2 i hi'.2).trans (s1 i hi'.1)
theorem rg_tp {es : List Expr} {kk : Nat} {ts : List Tg} (hc : X.calm = true) (h : PGs X es (UGs X.K X.mg ts)) (hn : (assignEach es X.env).length = ts.length := by rfl)
    (hst : (assignEach es X.env).findIdx? (·.1) = none := by rfl) : PG X (.Tuple es kk pos) (UG X.K X.mg (.tp ts)) :=
  PG.imp (pg_tup hc h hn hst) fun v σ H Q ⟨Hd, es, eh, x, es', R, r, e, k⟩ => by
    cases x with
    | tup xs =>
      obtain ⟨a, vs, rfl, ht, r⟩ := r
      exact ⟨a, vs, rfl, ht, by rw [← r.length, asgL_length e], Hd, es, eh, xs, es', R, r, e, k⟩
    | _ => simp [asg] at e
end
/-- target = value -/
def sAsg (t : Tg) (m : ME) : MS := fun xc d es eh => m xc es eh fun x eh1 => ∃ es', asg t x es = some es' ∧ d.nx es' eh1
theorem rs_asg {X : Cx} {E : XK} {tg e : Expr} {pos : Pos} {ma : ME} {t : Tg} (he : PE X e (U X.K X.mg E ma)) (hg : PG X tg (UG X.K X.mg t)) (hs : swapsWithSole [tg] e pos.line X.env = pure false := by rfl) (hw : swappedStores [tg] e X.env = pure none := by rfl)
    (h1 : (assignEach [tg] X.env).map (·.2) = [assign tg X.env] := by rfl) : PS X (.Assign [tg] e pos) (US X.K X.mg E (sAsg t ma)) :=
  PS.imp (ps_asg he hg hs hw h1) fun D σ H ⟨Hd, es, eh, xc, d, R, xo, m, k1, k2, k3, k4⟩ => ⟨Hd, es, eh, xc, _, R, xo, m, fun eh1 H1 x v s1 R1 r1 ⟨es', e, m1⟩ =>
    ⟨Hd, es, eh1, x, es', R.step s1 R1, r1, e, fun σ' R' _ _ => k1 es' eh1 σ' H1 s1 R' m1⟩⟩

/-! ### what is walked -/
abbrev MI := XC → Es → Eh → (List EV → (Eh → Prop) → Eh → Prop) → Prop
structure JOk (K : PySem.W.Frag) (mg : Str → Option Value) (Hd : Addr → Prop) (eh0 : Eh) (H0 : Hp) (J : It) (xs : List EV) (ok : Eh → Prop) : Prop where
  stop : ∀ i Hd' eh H, (∀ a, Hd' a → Hd a ∨ H0 a = none) → StepW Hd' eh0 H0 eh H → Rh K mg Hd' eh H → ok eh → xs.length ≤ i → J.stop i H
  go : ∀ i Hd' eh H, (∀ a, Hd' a → Hd a ∨ H0 a = none) → StepW Hd' eh0 H0 eh H → Rh K mg Hd' eh H → ok eh → i < xs.length → J.go i H
  yld : ∀ i Hd' eh H v H', (∀ a, Hd' a → Hd a ∨ H0 a = none) → StepW Hd' eh0 H0 eh H → Rh K mg Hd' eh H → ok eh → i < xs.length → J.yld i H v H' → ∃ x, xs[i]? = some x ∧ Step eh H eh H' ∧ Rh K mg Hd' eh H' ∧ Rp K mg Hd' eh H' x v ∧ (∀ a o, H a = some o → H' a = some o)
def UI (K : PySem.W.Frag) (mg : Str → Option Value) (E : XK) (m : MI) : TI := fun σ H R => ∃ Hd es eh xc q, Rl K mg Hd eh H es σ ∧ XOk K mg E Hd eh H xc ∧ m xc es eh q ∧
  ∀ eh' H' xs ok J, Step eh H eh' H' → Rh K mg Hd eh' H' → JOk K mg Hd eh' H' J xs ok → q xs ok eh' → R J H'
theorem PI.imp {X : Cx} {tg e : Expr} {t t' : TI} (h : PI X tg e t) (i : ∀ σ H Q, t' σ H Q → t σ H Q) : PI X tg e t' := ⟨fun pins s σ H Q I w => h.run pins s σ H Q I (i σ H Q w)⟩
/-- what a value is walked by: its items, what must stay -/
def walkE (eh : Eh) : EV → Option (List EV × (Eh → Prop))
  | .tup xs => some (xs, fun _ => True)
  | .lst xs => some (xs, fun _ => True)
  | .scr ns => some (ns.map .int, fun _ => True)
  | .str x => some (x.cps.toList.map fun c => .str ⟨#[c]⟩, fun _ => True)
  | .dct kvs => some (kvs.map fun p => (match p.1 with | .inl i => .int i | .inr s => .str s), fun _ => True)
  | .ref a => match eh a with | some (.lst xs) => some (xs, fun h => h a = some (.lst xs)) | _ => none
  | _ => none
def iAny (m : ME) : MI := fun xc es eh q => m xc es eh fun x eh1 => ∃ xs ok, walkE eh1 x = some (xs, ok) ∧ q xs ok eh1
def tAnyI (K : PySem.W.Frag) (t : TE) : TI := fun σ H R => t σ H fun x H1 => (∃ a, x = .ref a ∧ (∃ xs, SqL K H1 a xs) ∧ R (Itl K a) H1) ∨ (∃ a, x = .ref a ∧ (∃ xs, SqT K H1 a xs) ∧ R (Itt K a) H1) ∨
  (∃ z, x = .str z ∧ R (Its z) H1) ∨ (∃ d o kvs, x = .ref d ∧ H1 d = some (.frz o (.dK kvs)) ∧ R (Itk d o kvs) H1)
theorem pi_any {X : Cx} {tg l : Expr} {tl : TE} (hl : PE X l tl) : PI X tg l (tAnyI X.K tl) := by
  refine ⟨fun pins s σ H R I h => ?_⟩
  refine thn (hl.run pins s σ H _ I h) fun v s1 ⟨x, H1, I1, r1, q1⟩ => ?_
  rcases q1 with ⟨a, rfl, ⟨xs, hq⟩, q⟩ | ⟨a, rfl, ⟨xs, hq⟩, q⟩ | ⟨z, rfl, q⟩ | ⟨d, o, kvs, rfl, hd, q⟩
  · cases r1
    obtain ⟨its, rv, p, hz⟩ := I1.list hq
    exact wpAny_pyIter_list p.isList (pi_one (tk := s1.toks) I1 _ (turn_list a _) ⟨_, Heap.get?_push_size _ rfl, rfl, rfl⟩ q)
  · cases r1
    obtain ⟨its, rv, p, hz⟩ := I1.tuple hq
    exact wpAny_pyIter_tuple (show s1.heap.IsTuple a its.toArray from p) (pi_one (tk := s1.toks) I1 _ (turn_tuple a _) ⟨_, Heap.get?_push_size _ rfl, rfl, rfl⟩ q)
  · obtain ⟨t, rfl⟩ := r1
    cases ha : z.cps.all (· < 128)
    · exact wpAny_pyIter_wide ha (pi_one (tk := s1.toks) I1 _ (turn_str _ z t "str_iterator" (.inr rfl)) ⟨_, Heap.get?_push_size _ rfl, rfl, rfl⟩ q)
    · exact wpAny_pyIter_ascii ha (pi_one (tk := s1.toks) I1 _ (turn_str _ z t "str_ascii_iterator" (.inl rfl)) ⟨_, Heap.get?_push_size _ rfl, rfl, rfl⟩ q)
  · cases r1
    obtain ⟨hs, hgd, hx, es, ep, vs, hdt, hsz, kv, hm⟩ := I1.frzK hd
    refine iter_keys hs hgd hx hdt (pi_one (tk := s1.toks) I1 _ (turn_keys _ hdt) ⟨_, Heap.get?_push_size _ rfl, rfl, ?_⟩ q)
    rw [hsz] <;> rfl
section
variable {K : PySem.W.Frag} {mg : Str → Option Value} {Hd : Addr → Prop} {eh0 : Eh} {H0 : Hp}
/-- how a source is read through the walk -/
def Src (K : PySem.W.Frag) (mg : Str → Option Value) (Hd : Addr → Prop) (eh0 : Eh) (H0 : Hp) (xs : List EV) (ok : Eh → Prop) (P : Hp → List V → Prop) : Prop :=
  ∀ Hd' eh H, (∀ a, Hd' a → Hd a ∨ H0 a = none) → StepW Hd' eh0 H0 eh H → Rh K mg Hd' eh H → ok eh → ∃ vs, P H vs ∧ RpL K mg Hd' eh H xs vs
theorem jok_list {a : Addr} {xs : List EV} {ok : Eh → Prop} (k : Src K mg Hd eh0 H0 xs ok (fun H vs => SqL K H a vs)) : JOk K mg Hd eh0 H0 (Itl K a) xs ok where
  stop := fun i Hd' eh H hh s R o hi => by
    obtain ⟨vs, q, r⟩ := k Hd' eh H hh s R o
    exact ⟨vs, q, by rw [← r.length]; exact hi⟩
  go := fun i Hd' eh H hh s R o hi => by
    obtain ⟨vs, q, r⟩ := k Hd' eh H hh s R o
    obtain ⟨v, hv, _⟩ := r.get (List.getElem?_eq_getElem hi)
    exact ⟨vs, v, q, hv⟩
  yld := fun i Hd' eh H v H' hh s R o hi ⟨e, y⟩ => by
    subst e
    obtain ⟨vs, q, r⟩ := k Hd' eh H' hh s R o
    obtain ⟨x, hx, rp⟩ := r.get' (y vs q)
    exact ⟨x, hx, .refl, R, rp, fun _ _ z => z⟩
theorem jok_tup {a : Addr} {xs : List EV} {ok : Eh → Prop} (k : Src K mg Hd eh0 H0 xs ok (fun H vs => SqT K H a vs)) : JOk K mg Hd eh0 H0 (Itt K a) xs ok where
  stop := fun i Hd' eh H hh s R o hi => by
    obtain ⟨vs, q, r⟩ := k Hd' eh H hh s R o
    exact ⟨vs, q, by rw [← r.length]; exact hi⟩
  go := fun i Hd' eh H hh s R o hi => by
    obtain ⟨vs, q, r⟩ := k Hd' eh H hh s R o
    obtain ⟨v, hv, _⟩ := r.get (List.getElem?_eq_getElem hi)
    exact ⟨vs, v, q, hv⟩
  yld := fun i Hd' eh H v H' hh s R o hi ⟨e, y⟩ => by
    subst e
    obtain ⟨vs, q, r⟩ := k Hd' eh H' hh s R o
    obtain ⟨x, hx, rp⟩ := r.get' (y vs q)
    exact ⟨x, hx, .refl, R, rp, fun _ _ z => z⟩
theorem jok_rng {lo : Int} {n : Nat} : JOk K mg Hd eh0 H0 (Itr lo n) ((List.range n).map fun (i : Nat) => .int (lo + (i : Int))) (fun _ => True) where
  stop := fun i Hd' eh H hh s R o hi => by
    show n ≤ i
    simpa using hi
  go := fun i Hd' eh H hh s R o hi => by
    show i < n
    simpa using hi
  yld := fun i Hd' eh H v H' hh s R o hi ⟨e, y⟩ => by
    subst e; subst y
    exact ⟨.int (lo + i), by have h : i < n := by simpa using hi
                             simp [List.getElem?_map, List.getElem?_range h], .refl, R, rfl, fun _ _ z => z⟩
theorem jok_str {z : Str} : JOk K mg Hd eh0 H0 (Its z) (z.cps.toList.map fun c => .str ⟨#[c]⟩) (fun _ => True) where
  stop := fun i Hd' eh H hh s R o hi => by
    show z.cps.size ≤ i
    simpa using hi
  go := fun i Hd' eh H hh s R o hi => by
    show i < z.cps.size
    simpa using hi
  yld := fun i Hd' eh H v H' hh s R o hi ⟨e, c, y, w⟩ => by
    subst e; subst w
    exact ⟨.str ⟨#[c]⟩, by simp [y], .refl, R, rfl, fun _ _ z => z⟩
def keyV : Key → EV
  | .inl i => .int i
  | .inr s => .str s
theorem keyV_rp {eh : Eh} {H : Hp} (k : Key) : Rp K mg Hd eh H (keyV k) (kV k) := by cases k <;> exact rfl
theorem jok_keys {d : Addr} {o : Obj} {kvs : List (Key × EV)} {us : List (Key × V)} (e : H0 d = some (.frz o (.dK us))) (r : RpK K mg Hd eh0 H0 kvs us) : JOk K mg Hd eh0 H0 (Itk d o us) (kvs.map fun p => keyV p.1) (fun _ => True) where
  stop := fun i Hd' eh H hh s R o hi => ⟨s.frz _ _ _ e, by rw [← r.length]; simpa using hi⟩
  go := fun i Hd' eh H hh s R o hi => ⟨s.frz _ _ _ e, by rw [← r.length]; simpa using hi⟩
  yld := fun i Hd' eh H v H' hh s R o hi ⟨e, k, w, y, z⟩ => by
    subst e; subst z
    obtain ⟨x, hx, _⟩ := r.get' y
    exact ⟨keyV k, by simp [hx], .refl, R, keyV_rp k, fun _ _ z => z⟩
theorem jok_items {d : Addr} {o : Obj} {kvs : List (Key × EV)} {us : List (Key × V)} (e : H0 d = some (.frz o (.dK us))) (r : RpK K mg Hd eh0 H0 kvs us) : JOk K mg Hd eh0 H0 (Iti d o us) (kvs.map fun p => .tup [keyV p.1, p.2]) (fun _ => True) where
  stop := fun i Hd' eh H hh s R o hi => ⟨s.frz _ _ _ e, by rw [← r.length]; simpa using hi⟩
  go := fun i Hd' eh H hh s R o hi => ⟨s.frz _ _ _ e, by rw [← r.length]; simpa using hi⟩
  yld := fun i Hd' eh H v H' hh s R o hi ⟨T, k, w, y, z, n, e⟩ => by
    subst e; subst z
    obtain ⟨x, hx, rx⟩ := r.get' y
    exact ⟨.tup [keyV k, x], by simp [hx], .newF n, R.newF n, ⟨T, _, rfl, .inl (.inl upd_same), .cons (keyV_rp k) (.one (((rx.hid hh).stepW s).step (.newF n)))⟩, fun a o q => by rw [upd_ne (ne_of_none q n)]; exact q⟩
theorem jok_vals {d : Addr} {o : Obj} {kvs : List (Key × EV)} {us : List (Key × V)} (e : H0 d = some (.frz o (.dK us))) (r : RpK K mg Hd eh0 H0 kvs us) : JOk K mg Hd eh0 H0 (Itd d o us) (kvs.map fun p => p.2) (fun _ => True) where
  stop := fun i Hd' eh H hh s R o hi => ⟨s.frz _ _ _ e, by rw [← r.length]; simpa using hi⟩
  go := fun i Hd' eh H hh s R o hi => ⟨s.frz _ _ _ e, by rw [← r.length]; simpa using hi⟩
  yld := fun i Hd' eh H v H' hh s R o hi ⟨e, k, y⟩ => by
    subst e
    obtain ⟨x, hx, rx⟩ := r.get' y
    exact ⟨x, by simp [hx], .refl, R, (rx.hid hh).stepW s, fun _ _ z => z⟩
theorem jok_enum {a : Addr} {xs : List EV} {ok : Eh → Prop} (k : Src K mg Hd eh0 H0 xs ok (fun H vs => SqL K H a vs)) : JOk K mg Hd eh0 H0 (Ite K a) (xs.mapIdx fun i x => .tup [.int (i : Nat), x]) ok where
  stop := fun i Hd' eh H hh s R o hi => by
    obtain ⟨vs, q, r⟩ := k Hd' eh H hh s R o
    exact ⟨vs, q, by rw [← r.length]; simpa using hi⟩
  go := fun i Hd' eh H hh s R o hi => by
    obtain ⟨vs, q, r⟩ := k Hd' eh H hh s R o
    obtain ⟨v, hv, _⟩ := r.get (List.getElem?_eq_getElem (by simpa using hi))
    exact ⟨vs, v, q, hv⟩
  yld := fun i Hd' eh H v H' hh s R o hi ⟨T, w, e, n, e', y⟩ => by
    subst e; subst e'
    obtain ⟨vs, q, r⟩ := k Hd' eh H hh s R o
    obtain ⟨x, hx, rp⟩ := r.get' (y vs q)
    exact ⟨.tup [.int (i : Nat), x], by simp [hx], .newF n, R.newF n, ⟨T, _, rfl, .inl (.inl upd_same), .cons rfl (.one (rp.step (.newF n)))⟩, fun a o q => by rw [upd_ne (ne_of_none q n)]; exact q⟩
theorem zip_get {α β : Type} {xs : List α} {ys : List β} {i : Nat} {x : α} {y : β} (h1 : xs[i]? = some x) (h2 : ys[i]? = some y) : (xs.zip ys)[i]? = some (x, y) := by
  rw [List.getElem?_zip_eq_some]; exact ⟨h1, h2⟩
theorem jok_zip {a b : Addr} {xs ys : List EV} {ok ok' : Eh → Prop} (k : Src K mg Hd eh0 H0 xs ok (fun H vs => SqL K H a vs)) (k' : Src K mg Hd eh0 H0 ys ok' (fun H vs => SqL K H b vs)) : JOk K mg Hd eh0 H0 (Itz K a b) ((xs.zip ys).map fun p => .tup [p.1, p.2]) (fun h => ok h ∧ ok' h) where
  stop := fun i Hd' eh H hh s R o hi => by
    obtain ⟨vs, q, r⟩ := k Hd' eh H hh s R o.1
    obtain ⟨us, q', r'⟩ := k' Hd' eh H hh s R o.2
    refine ⟨vs, us, q, q', ?_⟩
    rw [← r.length, ← r'.length]
    simp at hi; omega
  go := fun i Hd' eh H hh s R o hi => by
    obtain ⟨vs, q, r⟩ := k Hd' eh H hh s R o.1
    obtain ⟨us, q', r'⟩ := k' Hd' eh H hh s R o.2
    have hi' : i < xs.length ∧ i < ys.length := by simp at hi; omega
    obtain ⟨v, hv, _⟩ := r.get (List.getElem?_eq_getElem hi'.1)
    obtain ⟨u, hu, _⟩ := r'.get (List.getElem?_eq_getElem hi'.2)
    exact ⟨vs, us, v, u, q, q', hv, hu⟩
  yld := fun i Hd' eh H v H' hh s R o hi ⟨T, x, y, e, n, e', hx, hy⟩ => by
    subst e; subst e'
    obtain ⟨vs, q, r⟩ := k Hd' eh H hh s R o.1
    obtain ⟨us, q', r'⟩ := k' Hd' eh H hh s R o.2
    obtain ⟨x', hx', rx⟩ := r.get' (hx vs q)
    obtain ⟨y', hy', ry⟩ := r'.get' (hy us q')
    exact ⟨.tup [x', y'], by rw [List.getElem?_map, zip_get hx' hy']; rfl, .newF n, R.newF n, ⟨T, _, rfl, .inl (.inl upd_same), .cons (rx.step (.newF n)) (.one (ry.step (.newF n)))⟩, fun a o q => by rw [upd_ne (ne_of_none q n)]; exact q⟩
theorem jok_zipT {a b : Addr} {xs ys : List EV} {ok ok' : Eh → Prop} (k : Src K mg Hd eh0 H0 xs ok (fun H vs => SqT K H a vs)) (k' : Src K mg Hd eh0 H0 ys ok' (fun H vs => SqT K H b vs)) : JOk K mg Hd eh0 H0 (RZ.ItzT K a b) ((xs.zip ys).map fun p => .tup [p.1, p.2]) (fun h => ok h ∧ ok' h) where
  stop := fun i Hd' eh H hh s R o hi => by
    obtain ⟨vs, q, r⟩ := k Hd' eh H hh s R o.1
    obtain ⟨us, q', r'⟩ := k' Hd' eh H hh s R o.2
    refine ⟨vs, us, q, q', ?_⟩
    rw [← r.length, ← r'.length]
    simp at hi; omega
  go := fun i Hd' eh H hh s R o hi => by
    obtain ⟨vs, q, r⟩ := k Hd' eh H hh s R o.1
    obtain ⟨us, q', r'⟩ := k' Hd' eh H hh s R o.2
    have hi' : i < xs.length ∧ i < ys.length := by simp at hi; omega
    obtain ⟨v, hv, _⟩ := r.get (List.getElem?_eq_getElem hi'.1)
    obtain ⟨u, hu, _⟩ := r'.get (List.getElem?_eq_getElem hi'.2)
    exact ⟨vs, us, v, u, q, q', hv, hu⟩
  yld := fun i Hd' eh H v H' hh s R o hi ⟨T, x, y, e, n, e', hx, hy⟩ => by
    subst e; subst e'
    obtain ⟨vs, q, r⟩ := k Hd' eh H hh s R o.1
    obtain ⟨us, q', r'⟩ := k' Hd' eh H hh s R o.2
    obtain ⟨x', hx', rx⟩ := r.get' (hx vs q)
    obtain ⟨y', hy', ry⟩ := r'.get' (hy us q')
    exact ⟨.tup [x', y'], by rw [List.getElem?_map, zip_get hx' hy']; rfl, .newF n, R.newF n, ⟨T, _, rfl, .inl (.inl upd_same), .cons (rx.step (.newF n)) (.one (ry.step (.newF n)))⟩, fun a o q => by rw [upd_ne (ne_of_none q n)]; exact q⟩
/-- a list's source, frozen or explicit -/
def srcL (eh : Eh) : EV → Option (List EV × (Eh → Prop))
  | .lst xs => some (xs, fun _ => True)
  | .scr ns => some (ns.map .int, fun _ => True)
  | .ref a => match eh a with | some (.lst xs) => some (xs, fun h => h a = some (.lst xs)) | _ => none
  | _ => none
theorem srcL_of (R : Rh K mg Hd eh0 H0) {x : EV} {v : V} {xs : List EV} {ok : Eh → Prop} (r : Rp K mg Hd eh0 H0 x v) (e : srcL eh0 x = some (xs, ok)) :
    ∃ a, v = .ref a ∧ (∃ vs, SqL K H0 a vs) ∧ ok eh0 ∧ Src K mg Hd eh0 H0 xs ok (fun H vs => SqL K H a vs) := by
  cases x with
  | lst ys =>
    cases e
    obtain ⟨a, vs, rfl, h, n, t⟩ := r
    exact ⟨a, rfl, ⟨vs, .inl (.inl h)⟩, trivial, fun Hd' eh H hh s R' _ => ⟨vs, .inl (.inl (s.st _ _ h n.1 (fun _ z => nomatch z) (hid_ok (eh := eh0) hh h n.2)).1), (t.hid hh).stepW s⟩⟩
  | scr ns =>
    cases e
    obtain ⟨a, rfl, h⟩ := r
    exact ⟨a, rfl, ⟨_, h.sq⟩, trivial, fun Hd' eh H hh s R' _ => by
      obtain ⟨b, e, h'⟩ := Rp.stepW s (K := K) (x := .scr ns) (v := .ref a) (mg := mg) (Rp.hid hh (mg := mg) (x := .scr ns) (v := .ref a) ⟨a, rfl, h⟩)
      cases e
      exact ⟨_, h'.sq, RpL.of_ints ns⟩⟩
  | ref a =>
    cases r
    simp only [srcL] at e
    cases h : eh0 a with
    | none => rw [h] at e; cases e
    | some o =>
      rw [h] at e
      cases o with
      | lst ys =>
        cases e
        obtain ⟨vs, hv, t⟩ := R.ob a _ h
        refine ⟨a, rfl, ⟨vs, .inl (.inl hv)⟩, h, fun Hd' eh H hh s R' o => ?_⟩
        obtain ⟨vs, hv, t⟩ := R'.ob a _ o
        exact ⟨vs, .inl (.inl hv), t⟩
      | _ => cases e
  | _ => cases e
def srcT : EV → Option (List EV)
  | .tup xs => some xs
  | _ => none
theorem srcT_of {x : EV} {v : V} {xs : List EV} (r : Rp K mg Hd eh0 H0 x v) (e : srcT x = some xs) :
    ∃ a, v = .ref a ∧ (∃ vs, SqT K H0 a vs) ∧ Src K mg Hd eh0 H0 xs (fun _ => True) (fun H vs => SqT K H a vs) := by
  cases x with
  | tup ys =>
    cases e
    obtain ⟨a, vs, rfl, h, t⟩ := r
    exact ⟨a, rfl, ⟨vs, h⟩, fun Hd' eh H hh s R' _ => ⟨vs, SqT.stepW s h, (t.hid hh).stepW s⟩⟩
  | _ => cases e
end
section
variable {X : Cx} {E : XK} {tg e e2 : Expr} {ma mb : ME} {pos p : Pos}
theorem ri_any (h : PE X e (U X.K X.mg E ma)) : PI X tg e (UI X.K X.mg E (iAny ma)) :=
  PI.imp (pi_any h) fun σ H R ⟨Hd, es, eh, xc, q, Rl, xo, m, k⟩ => ⟨Hd, es, eh, xc, _, Rl, xo, m, fun eh1 H1 x v s1 R1 r1 ⟨xs, ok, ew, m1⟩ => by
    cases x with
    | tup ys =>
      cases ew
      obtain ⟨a, rfl, vs, src⟩ := srcT_of r1 rfl
      exact .inr (.inl ⟨a, rfl, vs, k eh1 H1 _ _ _ s1 R1 (jok_tup src) m1⟩)
    | lst ys =>
      cases ew
      obtain ⟨a, rfl, vs, o, src⟩ := srcL_of R1 r1 rfl
      exact .inl ⟨a, rfl, vs, k eh1 H1 _ _ _ s1 R1 (jok_list src) m1⟩
    | scr ns =>
      cases ew
      obtain ⟨a, rfl, vs, o, src⟩ := srcL_of R1 r1 rfl
      exact .inl ⟨a, rfl, vs, k eh1 H1 _ _ _ s1 R1 (jok_list src) m1⟩
    | str z =>
      cases ew
      cases r1
      exact .inr (.inr (.inl ⟨z, rfl, k eh1 H1 _ _ _ s1 R1 jok_str m1⟩))
    | dct kvs =>
      cases ew
      obtain ⟨a, o, us, rfl, h, t⟩ := r1
      exact .inr (.inr (.inr ⟨a, o, us, rfl, h, k eh1 H1 _ _ _ s1 R1 (jok_keys h t) m1⟩))
    | ref a =>
      simp only [walkE] at ew
      cases h : eh1 a with
      | none => rw [h] at ew; cases ew
      | some o =>
        rw [h] at ew
        cases o with
        | lst ys =>
          cases ew
          obtain ⟨b, rfl, vs, o, src⟩ := srcL_of R1 r1 (xs := xs) (ok := fun h => h a = some (.lst xs)) (by simp only [srcL, h])
          exact .inl ⟨b, rfl, vs, k eh1 H1 _ _ _ s1 R1 (jok_list src) m1⟩
        | _ => cases ew
    | _ => cases ew⟩
def iRange1 (t : MA) : MI := fun xc es eh q => t xc es eh fun xs eh1 => match xs with
  | [.int j] => (-(2 ^ 62) ≤ j ∧ j < 2 ^ 62) ∧ q ((List.range j.toNat).map fun (i : Nat) => .int (i : Int)) (fun _ => True) eh1
  | _ => False
theorem ri_range1 {mt : MA} (hg : Gl X "range") (hm : X.mg "range" = none) (ha : PA X [e] (UA X.K X.mg E mt)) (hs : starEach [e] X.env = [(false, eval e X.env)] := by rfl) : PI X tg (.Call (.Name "range" p) [e] [] pos) (UI X.K X.mg E (iRange1 mt)) :=
  PI.imp (pi_range1 hg hm ha hs) fun σ H R ⟨Hd, es, eh, xc, q, Rl, xo, m, k⟩ => ⟨Hd, es, eh, xc, _, Rl, xo, m, fun eh1 H1 xs vs s1 R1 r1 m1 => by
    split at m1
    · rename_i j
      obtain ⟨v, r, rfl, rv, rr⟩ := r1
      cases rv; cases rr
      refine ⟨j, rfl, m1.1.1, m1.1.2, k eh1 H1 _ _ _ s1 R1 jok_rng (by simpa using m1.2)⟩
    · exact m1.elim⟩
def iRange2 (t : MA) : MI := fun xc es eh q => t xc es eh fun xs eh1 => match xs with
  | [.int i, .int j] => (-(2 ^ 62) ≤ i ∧ i < 2 ^ 62 ∧ -(2 ^ 62) ≤ j ∧ j < 2 ^ 62) ∧ q ((List.range (j - i).toNat).map fun (n : Nat) => .int (i + (n : Int))) (fun _ => True) eh1
  | _ => False
theorem ri_range2 {mt : MA} (hg : Gl X "range") (hm : X.mg "range" = none) (ha : PA X [e, e2] (UA X.K X.mg E mt)) (hs : starEach [e, e2] X.env = [(false, eval e X.env), (false, eval e2 X.env)] := by rfl) (hs2 : starEach [e2] X.env = [(false, eval e2 X.env)] := by rfl) :
    PI X tg (.Call (.Name "range" p) [e, e2] [] pos) (UI X.K X.mg E (iRange2 mt)) :=
  PI.imp (pi_range2 hg hm ha hs hs2) fun σ H R ⟨Hd, es, eh, xc, q, Rl, xo, m, k⟩ => ⟨Hd, es, eh, xc, _, Rl, xo, m, fun eh1 H1 xs vs s1 R1 r1 m1 => by
    split at m1
    · rename_i i j
      obtain ⟨v, r, rfl, rv, v', r', rfl, rv', rr⟩ := r1
      cases rv; cases rv'; cases rr
      exact ⟨i, j, rfl, m1.1, k eh1 H1 _ _ _ s1 R1 jok_rng m1.2⟩
    · exact m1.elim⟩
def iEnumM (t : MA) : MI := fun xc es eh q => t xc es eh fun xs eh1 => match xs with
  | [x] => ∃ ys ok, srcL eh1 x = some (ys, ok) ∧ q (ys.mapIdx fun i x => .tup [.int (i : Nat), x]) ok eh1
  | _ => False
theorem ri_enum {mt : MA} {elts : List Expr} {kk : Nat} {tpos : Pos} (hg : Gl X "enumerate") (hm : X.mg "enumerate" = none) (ha : PA X [e] (UA X.K X.mg E mt)) (hs : starEach [e] X.env = [(false, eval e X.env)] := by rfl) :
    PI X (.Tuple elts kk tpos) (.Call (.Name "enumerate" p) [e] [] pos) (UI X.K X.mg E (iEnumM mt)) :=
  PI.imp (pi_enum hg hm ha hs) fun σ H R ⟨Hd, es, eh, xc, q, Rl, xo, m, k⟩ => ⟨Hd, es, eh, xc, _, Rl, xo, m, fun eh1 H1 xs vs s1 R1 r1 m1 => by
    split at m1
    · obtain ⟨ys, ok, ey, m1⟩ := m1
      obtain ⟨v, r, rfl, rv, rr⟩ := r1
      cases rr
      obtain ⟨a, rfl, ⟨us, hu⟩, o, src⟩ := srcL_of R1 rv ey
      exact ⟨a, us, rfl, hu, k eh1 H1 _ _ _ s1 R1 (jok_enum src) m1⟩
    · exact m1.elim⟩
def iZipM (t : MA) : MI := fun xc es eh q => t xc es eh fun xs eh1 => match xs with
  | [x, y] => (∃ xs ys, srcT x = some xs ∧ srcT y = some ys ∧ q ((xs.zip ys).map fun p => .tup [p.1, p.2]) (fun _ => True) eh1) ∨
      ∃ xs ys ok ok', srcL eh1 x = some (xs, ok) ∧ srcL eh1 y = some (ys, ok') ∧ q ((xs.zip ys).map fun p => .tup [p.1, p.2]) (fun h => ok h ∧ ok' h) eh1
  | _ => False
theorem JOk.tt {K mg Hd eh0 H0 J xs} (h : JOk K mg Hd eh0 H0 J xs (fun _ => True ∧ True)) : JOk K mg Hd eh0 H0 J xs (fun _ => True) :=
  ⟨fun i Hd' eh H a b c _ => h.stop i Hd' eh H a b c ⟨trivial, trivial⟩, fun i Hd' eh H a b c _ => h.go i Hd' eh H a b c ⟨trivial, trivial⟩, fun i Hd' eh H v H' a b c _ => h.yld i Hd' eh H v H' a b c ⟨trivial, trivial⟩⟩
theorem ri_zip {mt : MA} {elts : List Expr} {kk : Nat} {tpos : Pos} (hg : Gl X "zip") (hm : X.mg "zip" = none) (ha : PA X [e, e2] (UA X.K X.mg E mt))
    (hs : starEach [e, e2] X.env = (false, eval e X.env) :: starEach [e2] X.env := by rfl) (hpl : (backTo pos (starEach [e2] X.env)).any (·.1) = false := by rfl) :
    PI X (.Tuple elts kk tpos) (.Call (.Name "zip" p) [e, e2] [] pos) (UI X.K X.mg E (iZipM mt)) :=
  PI.imp (RZ.pi_zipA hg hm ha hs hpl) fun σ H R ⟨Hd, es, eh, xc, q, Rl, xo, m, k⟩ => ⟨Hd, es, eh, xc, _, Rl, xo, m, fun eh1 H1 xs vs s1 R1 r1 m1 => by
    split at m1
    · obtain ⟨v, r, rfl, rv, v', r', rfl, rv', rr⟩ := r1
      cases rr
      rcases m1 with ⟨xs, ys, ex, ey, m1⟩ | ⟨xs, ys, ok, ok', ex, ey, m1⟩
      · obtain ⟨a, rfl, ⟨us, hu⟩, src⟩ := srcT_of rv ex
        obtain ⟨b, rfl, ⟨ws, hw⟩, src'⟩ := srcT_of rv' ey
        exact ⟨a, b, us, ws, rfl, .inr ⟨hu, hw, k eh1 H1 _ _ _ s1 R1 (jok_zipT src src').tt m1⟩⟩
      · obtain ⟨a, rfl, ⟨us, hu⟩, o, src⟩ := srcL_of R1 rv ex
        obtain ⟨b, rfl, ⟨ws, hw⟩, o', src'⟩ := srcL_of R1 rv' ey
        exact ⟨a, b, us, ws, rfl, .inl ⟨hu, hw, k eh1 H1 _ _ _ s1 R1 (jok_zip src src') m1⟩⟩
    · exact m1.elim⟩
def iItemsM (m : ME) : MI := fun xc es eh q => m xc es eh fun x eh1 => match x with
  | .dct kvs => q (kvs.map fun p => .tup [keyV p.1, p.2]) (fun _ => True) eh1
  | _ => False
theorem ri_items {elts : List Expr} {kk : Nat} {tpos apos cpos : Pos} (he : PE X e (U X.K X.mg E ma)) (hbase : attributeBase e "items" X.env (eval e X.env) = eval e X.env := by rfl) (hline : (apos.endLine == cpos.line) = true := by rfl) :
    PI X (.Tuple elts kk tpos) (.Call (.Attribute e "items" apos) [] [] cpos) (UI X.K X.mg E (iItemsM ma)) :=
  PI.imp (pi_items he hbase hline) fun σ H R ⟨Hd, es, eh, xc, q, Rl, xo, m, k⟩ => ⟨Hd, es, eh, xc, _, Rl, xo, m, fun eh1 H1 x v s1 R1 r1 m1 => by
    cases x with
    | dct kvs =>
      obtain ⟨a, o, us, rfl, h, t⟩ := r1
      exact ⟨a, o, us, rfl, h, k eh1 H1 _ _ _ s1 R1 (jok_items h t) m1⟩
    | _ => exact m1.elim⟩
def iValsM (m : ME) : MI := fun xc es eh q => m xc es eh fun x eh1 => match x with
  | .dct kvs => q (kvs.map fun p => p.2) (fun _ => True) eh1
  | _ => False
theorem ri_vals {apos cpos : Pos} (he : PE X e (U X.K X.mg E ma)) (hbase : attributeBase e "values" X.env (eval e X.env) = eval e X.env := by rfl) (hline : (apos.endLine == cpos.line) = true := by rfl) :
    PI X tg (.Call (.Attribute e "values" apos) [] [] cpos) (UI X.K X.mg E (iValsM ma)) :=
  PI.imp (pi_values he hbase hline) fun σ H R ⟨Hd, es, eh, xc, q, Rl, xo, m, k⟩ => ⟨Hd, es, eh, xc, _, Rl, xo, m, fun eh1 H1 x v s1 R1 r1 m1 => by
    cases x with
    | dct kvs =>
      obtain ⟨a, o, us, rfl, h, t⟩ := r1
      exact ⟨a, o, us, rfl, h, k eh1 H1 _ _ _ s1 R1 (jok_vals h t) m1⟩
    | _ => exact m1.elim⟩
end

/-! ### for, while -/
def forL (g : Tg) (b : MS) (ok : Eh → Prop) (xc : XC) (d : Dn) : List EV → Es → Eh → Prop
  | [], es, eh => ok eh ∧ d.nx es eh
  | x :: xs, es, eh => ok eh ∧ ∃ es', asg g x es = some es' ∧ b xc { d with nx := fun es1 eh1 => forL g b ok xc d xs es1 eh1, ct := fun es1 eh1 => forL g b ok xc d xs es1 eh1, bk := d.nx } es' eh
def sFor (mi : MI) (g : Tg) (b : MS) : MS := fun xc d es eh => mi xc es eh fun xs ok eh1 => forL g b ok xc d xs es eh1
def whileN (c : MT) (b : MS) (xc : XC) (d : Dn) : Nat → Es → Eh → Prop
  | 0, _, _ => False
  | n + 1, es, eh => c xc es eh fun t eh1 => match t with
    | true => b xc { d with nx := fun es1 eh1 => whileN c b xc d n es1 eh1, ct := fun es1 eh1 => whileN c b xc d n es1 eh1, bk := d.nx } es eh1
    | false => d.nx es eh1
def sWhile (c : MT) (b : MS) : MS := fun xc d es eh => ∃ n, whileN c b xc d n es eh
theorem drop_cons {α : Type} {xs : List α} {i : Nat} {x : α} {r : List α} (h : xs.drop i = x :: r) : xs[i]? = some x ∧ xs.drop (i + 1) = r ∧ i < xs.length := by
  have hl : i < xs.length := by
    rcases Nat.lt_or_ge i xs.length with z | z
    · exact z
    · rw [List.drop_eq_nil_of_le z] at h; cases h
  rw [List.drop_eq_getElem_cons hl] at h
  cases h
  exact ⟨List.getElem?_eq_getElem hl, rfl, hl⟩
section
variable {X : Cx} {E : XK} {tg iter c : Expr} {body : List Stmt} {mi : MI} {g : Tg} {ms : MS} {mt : MT} {pos : Pos}
theorem rs_for (hp : PassesOwn (model X.prog X.w) X.A X.env X.xe) (hc : X.calm = true) (hi : PI X tg iter (UI X.K X.mg E mi)) (hg : PG X tg (UG X.K X.mg g)) (hb : PSs X body (US X.K X.mg E ms))
    (hs : ∀ x, foldedSetIterable iter X.env x = pure x := by intro _; rfl) : PS X (.For tg iter body [] pos) (US X.K X.mg E (sFor mi g ms)) :=
  PS.imp (ps_for hp hc hi hg hb hs) fun D σ H ⟨Hd, es, eh, xc, d, R, xo, m, k1, k2, k3, k4⟩ => ⟨Hd, es, eh, xc, _, R, xo, m, fun ehA HA xs ok J sA RA jo mA => by
    refine ⟨fun i n σ H => ∃ es eh, i + n = xs.length ∧ Step ehA HA eh H ∧ Rl X.K X.mg Hd eh H es σ ∧ forL g ms ok xc d (xs.drop i) es eh, ⟨xs.length, es, ehA, by omega, .refl, R.step sA RA, mA⟩, ?_⟩
    rintro i n σ H ⟨es, eh, hn, s1, R1, f⟩
    cases hd : xs.drop i with
    | nil =>
      rw [hd] at f
      have : xs.length ≤ i := by simpa using hd
      exact .inl ⟨jo.stop i Hd eh H (fun _ z => .inl z) s1.w R1.obj f.1 this, k1 es eh σ H (sA.trans s1) R1 f.2⟩
    | cons x r =>
      rw [hd] at f
      obtain ⟨hx, hr, hl⟩ := drop_cons hd
      obtain ⟨o, es', ea, f⟩ := f
      refine .inr ⟨jo.go i Hd eh H (fun _ z => .inl z) s1.w R1.obj o hl, fun σ' H' => ∃ es eh, (i + 1) + (n - 1) = xs.length ∧ Step ehA HA eh H' ∧ Rl X.K X.mg Hd eh H' es σ' ∧ forL g ms ok xc d (xs.drop (i + 1)) es eh,
        fun σ' H' w => ⟨n - 1, by omega, w⟩, fun v H2 y => ?_⟩
      obtain ⟨x', hx', s2, R2, r2, _⟩ := jo.yld i Hd eh H v H2 (fun _ z => .inl z) s1.w R1.obj o hl y
      rw [hx] at hx'; cases hx'
      refine ⟨Hd, es, eh, x, es', R1.step s2 R2, r2, ea, fun σ3 R3 _ _ => ⟨Hd, es', eh, xc, _, R3, ((xo.step sA).step s1).step s2, f, ?_, ?_, ?_, ?_⟩⟩
      · intro es4 eh4 σ4 H4 s4 R4 f4
        exact ⟨es4, eh4, by omega, s1.trans (s2.trans s4), R4, by rw [hr]; exact f4⟩
      · exact fun eh4 H4 x v s4 R4 r4 => k2 eh4 H4 x v (sA.trans (s1.trans (s2.trans s4))) R4 r4
      · exact fun es4 eh4 σ4 H4 s4 R4 => k1 es4 eh4 σ4 H4 (sA.trans (s1.trans (s2.trans s4))) R4
      · intro es4 eh4 σ4 H4 s4 R4 f4
        exact ⟨es4, eh4, by omega, s1.trans (s2.trans s4), R4, by rw [hr]; exact f4⟩⟩
theorem rs_while (hp : PassesOwn (model X.prog X.w) X.A X.env X.xe) (hc : PT X c (UT X.K X.mg E mt)) (hb : PSs X body (US X.K X.mg E ms)) : PS X (.While c body [] pos) (US X.K X.mg E (sWhile mt ms)) :=
  PS.imp (ps_while hp hc hb) fun D σ H ⟨Hd, es, eh, xc, d, R, xo, ⟨n, m⟩, k1, k2, k3, k4⟩ => by
    refine ⟨fun n σ' H' => ∃ es eh', Step eh H eh' H' ∧ Rl X.K X.mg Hd eh' H' es σ' ∧ whileN mt ms xc d n es eh', ⟨n, es, eh, .refl, R, m⟩, ?_⟩
    rintro n σ1 H1 ⟨es1, eh1, s1, R1, w⟩
    cases n with
    | zero => exact w.elim
    | succ n =>
      refine ⟨Hd, es1, eh1, xc, _, R1, xo.step s1, w, fun eh2 H2 b s2 R2 w2 => ?_⟩
      cases b with
      | false => exact iteF (k1 es1 eh2 σ1 H2 (s1.trans s2) (R1.step s2 R2) w2)
      | true =>
        refine iteT ⟨fun σ' H' => ∃ es eh', Step eh H eh' H' ∧ Rl X.K X.mg Hd eh' H' es σ' ∧ whileN mt ms xc d n es eh', fun σ' H' w => ⟨n, Nat.lt_succ_self n, w⟩, Hd, es1, eh2, xc, _, R1.step s2 R2, (xo.step s1).step s2, w2, ?_, ?_, ?_, ?_⟩
        · exact fun es4 eh4 σ4 H4 s4 R4 f4 => ⟨es4, eh4, s1.trans (s2.trans s4), R4, f4⟩
        · exact fun eh4 H4 x v s4 R4 r4 => k2 eh4 H4 x v (s1.trans (s2.trans s4)) R4 r4
        · exact fun es4 eh4 σ4 H4 s4 R4 => k1 es4 eh4 σ4 H4 (s1.trans (s2.trans s4)) R4
        · exact fun es4 eh4 σ4 H4 s4 R4 f4 => ⟨es4, eh4, s1.trans (s2.trans s4), R4, f4⟩
end
end VM

/-! VMG: promises of defs that are called while no repr is under way (guards = some []): FnG in the place of the kit's FnOk, RoomG in the place of Room. -/
namespace VM
open PySem PySem.Spec PyProof.Rows L2
theorem Passes.at {CX : CXT} {X : Cx} {E : XK} (h : Passes CX X E) : ∀ σ, PassesAt CX X σ E := fun σ pins H s e s' => h pins σ H s e s'
structure FnG (P : Program) (w : World) (K : PySem.W.Frag) (mg : Str → Option Value) (B : Heap) (CX : CXT) (k : Nat) (f : Addr) (fd : FuncData) (ps : List Str) (sp : Sp) : Prop where
  num : ∀ xs H Q E, sp xs H Q E → xs.length = ps.length
  go : ∀ {A : Around} {fr : List Env} {s : Shared} {H : Hp} {ar : Args} {as : List Value} {xs : List V} {Q : VK} {E : XK}, RoomG k A → Env0 P w K mg B A fr s H → BindsTo s fd ar (ps.zip as) → Vals xs as → sp xs H Q E →
    codeAny (model P w) A (.call (.ref f) ar) (CR CX fr P w H s Q E) s
theorem FnG.mono {P w K mg B CX i k f fd ps sp} (F : FnG P w K mg B CX i f fd ps sp) (l : i ≤ k) : FnG P w K mg B CX k f fd ps sp := ⟨F.num, fun r => F.go (r.mono l)⟩
section
variable {P : Program} {w : World} {K : PySem.W.Frag} {mg : Str → Option Value} {B : Heap} {CX : CXT} {k : Nat} {f : Addr} {fd : FuncData} {N ps : List Str} {sp : Sp} {z qual : Str} {params : Arguments} {body : List Stmt} {scope : Scope} {dvs : List V} {kws : List (Str × V)}
/-- by its body, which is read once for each entry -/
theorem FnG.of (D : FunD K z qual params body scope dvs kws f fd) (S : FnScope N ps scope) (num : ∀ xs H Q E, sp xs H Q E → xs.length = ps.length)
    (bd : ∀ (cd : Value) (A : Around) (fr : List Env) (s : Shared) (H : Hp) (xs : List V) (Q : VK) (E : XK), (∃ oc od osl, K.lookup f = some ⟨oc, od, .func fd, osl⟩ ∧ fd.code = cd ∧ PySem.W.codeIn K cd qual = true) → RoomG k (A.deeper (envOfC qual scope s.heap.objs.size f cd)) → sp xs H Q E →
      ∃ t, PSs (cxOf CX P w K mg B N qual scope f cd A fr s H E) body t ∧ t { nx := fun _ H' => Q .non H', rt := Q } (L2.start N xs) H) : FnG P w K mg B CX (k + 1) f fd ps sp := by
  obtain ⟨oc, od, dV, kV, doc, pm, an, cd, ct, osl, efd, lk, hc, _, _⟩ := D.ex
  constructor
  · exact num
  · intro A fr s H ar as xs Q E ro e0 hb rv hs
    have kp : ∀ b o, B.get? b = some o → s.heap.get? b = some o := fun b o e => (e0.bs b o e).1
    have kin : K.In s.heap := e0.mod.kin.keeps kp
    subst efd
    obtain ⟨t, ht, hq⟩ := bd cd A fr s H xs Q E ⟨oc, od, osl, lk, rfl, hc⟩ (ro.deeper _) hs
    have par : ∀ y ∈ ps.zip as, scope.names.lookup y.1 = some .local ∨ (scope.names.lookup y.1 = some .cell ∧ ((cellsFrom (s.heap.objs.size + 1) scope.names []).lookup y.1).isSome = true) := by
      rintro ⟨y, v⟩ hy
      cases S.par y (List.of_mem_zip hy).1 with
      | inl q => exact .inl q
      | inr q => exact .inr ⟨q, PySem.W.cellsFrom_some _ _ _ (.inl q)⟩
    apply codeAny_call_function ro.r.depth (kin f _ lk) rfl S.co S.gen rfl (PySem.W.codeRec_of kin hc)
    apply hb
    apply wpAny_newFunctionEnv_cells S.kind par
    intro env he s1 x
    subst he
    have start := inv_start (CX := CX) (P := P) (w := w) (K := K) (mg := mg) (base := B) (E := E) S ro.hd e0 (num _ _ _ _ hs) rv x
    refine ⟨(e0.mod.nolimit.keeps kp).keeps x.toInCall.keep, codeAny_func (wpAny_mono (ht.run [] s1 _ H _ start hq) ?_ fun _ _ h => h)⟩
    rintro (_ | _ | _ | u) s' h
    · obtain ⟨τ, H', J, q⟩ := h; exact ⟨.non, H', J.os, J.bare, J.base, J.hok, rfl, q⟩
    · obtain ⟨_, _, _, q⟩ := h; exact q.elim
    · obtain ⟨_, _, _, q⟩ := h; exact q.elim
    · obtain ⟨v, τ, H', J, r, q⟩ := h; exact ⟨v, H', J.os, J.bare, J.base, J.hok, r, q⟩
end
section
variable {X : Cx} {CX : CXT} {k : Nat} {f C : Addr} {fd : FuncData} {ps : List Str} {sp : Sp} {E : XK} {pins : List (Addr × Obj)} {σ : L2.St} {H : Hp} {s : Shared} {Q : VK} {as : List Value} {xs : List V} {kw : List (Str × Value)}
/-- what stands behind a call -/
theorem back_of (hx : PassesAt CX X σ E) (I : Inv X pins σ H s) : ∀ {r : Result} {s' : Shared}, CR CX X.stack X.prog X.w H s Q E r s' → (match r with | .ok (.ret u) => EP X pins σ Q u s' | .ok _ => False | .error e => X.xe e s')
  | .error e, s', h => hx pins H s e s' I h
  | .ok (.ret u), s', h => I.after h
  | .ok .next, s', h => h.elim
  | .ok .brk, s', h => h.elim
  | .ok .cont, s', h => h.elim
theorem FnG.here {bs : List Value} (F : FnG X.prog X.w X.K X.mg X.base CX k f fd ps sp) (ro : RoomG k X.A) (hx : PassesAt CX X σ E) (I : Inv X pins σ H s) (hb : BindsTo s fd ⟨as, kw⟩ (ps.zip bs)) (rv : Vals xs bs) (hs : sp xs H Q E) :
    wpAny (model X.prog X.w) X.A (call (.ref f) as kw) (EP X pins σ Q) X.xe s :=
  wpAny_call (codeAny_mono (F.go ro I.env0 hb rv hs) fun r s' h => by
    have q := back_of hx I h
    cases r with
    | error e => exact q
    | ok fl => cases fl <;> exact q)
/-- an instance made: __init__ runs at the new object -/
theorem FnG.made {M : Addr → List V} (mk : Mk X.K C f) (F : FnG X.prog X.w X.K X.mg X.base CX k f fd ps sp) (ro : RoomG (k + 1) X.A) (hx : PassesAt CX X σ E) (I : Inv X pins σ H s)
    (hb : ∀ t : Shared, X.K.In t.heap → ∃ bs, BindsTo t fd ⟨.ref (s.heap.objs.size + 1) :: as, kw⟩ (ps.zip bs) ∧ Vals (M (s.heap.objs.size + 1)) bs)
    (h : ∀ p q, H p = none → H q = none → q ≠ p → sp (M p) (upd (upd H q (.own p)) p (.ins C q [])) (fun v H2 => v = .non ∧ Q (.ref p) H2) E) :
    wpAny (model X.prog X.w) X.A (call (.ref C) as kw) (EP X pins σ Q) X.xe s := by
  have J := Inv.made (C := C) I
  have g := h (s.heap.objs.size + 1) s.heap.objs.size (I.hok.fresh (Nat.le_succ _)) (I.hok.fresh (Nat.le_refl _)) (Nat.ne_of_lt (Nat.lt_succ_self _))
  obtain ⟨bs, b1, b2⟩ := hb _ J.kIn
  apply wpAny_call
  refine make_map I.kIn mk.makes mk.init (beq_iff_eq.mp mk.fn) (codeAny_mono (F.go (ro.make C as kw) (J.env0.make C as kw) b1 b2 g) ?_)
  intro r s' hq
  have q := back_of hx J hq
  cases r with
  | error e => exact q
  | ok fl =>
    cases fl with
    | ret u => obtain ⟨v, H', L, rv, ⟨rfl, q3⟩⟩ := q; exact ⟨rv, .ref (s.heap.objs.size + 1), H', L, rfl, q3⟩
    | _ => exact q
end
section
variable {X : Cx} {CX : CXT} {k n : Nat} {f C : Addr} {fd : FuncData} {ps ks : List Str} {sp : Sp} {dvs : List V} {ds : List Value} {E : XK} {pins : List (Addr × Obj)} {σ : L2.St} {H : Hp} {s : Shared} {Q : VK} {as bs : List Value} {xs ys : List V} {x m : Str} {p pos apos : Pos} {o e : Expr} {es : List Expr} {ta : TE} {t tk : TA} {g : List Value → List Value → List Value} {gV : List V → List V → List V} {kws : List Keyword}
theorem FnG.pos_ (F : FnG X.prog X.w X.K X.mg X.base CX k f fd ps sp) (ro : RoomG k X.A) (hb : Binds X.K fd ps ds) (hd : Vals dvs ds) (hx : PassesAt CX X σ E) (I : Inv X pins σ H s) (r : Vals xs as) (h : sp (xs ++ dvs) H Q E) :
    wpAny (model X.prog X.w) X.A (call (.ref f) as) (EP X pins σ Q) X.xe s :=
  F.here ro hx I (hb s as I.kIn ((r.append hd).length ▸ F.num _ _ _ _ h)) (r.append hd) h
theorem FnG.kw_ (F : FnG X.prog X.w X.K X.mg X.base CX k f fd ps sp) (ro : RoomG k X.A) (hb : KBn X.K fd ps n ks g gV) (hx : PassesAt CX X σ E) (I : Inv X pins σ H s) (r : Vals xs as) (rk : Vals ys bs) (l1 : xs.length = n) (l2 : ys.length = ks.length) (h : sp (gV xs ys) H Q E) :
    wpAny (model X.prog X.w) X.A (call (.ref f) as (ks.zip bs)) (EP X pins σ Q) X.xe s :=
  F.here ro hx I (hb.to s as bs I.kIn (r.length ▸ l1) (rk.length ▸ l2)) (hb.rel r rk) h
end
section
variable {X : Cx} {CX : CXT} {k n : Nat} {f C : Addr} {fd : FuncData} {ps ks : List Str} {sp : Sp} {dvs : List V} {ds : List Value} {E : L2.St → XK} {pins : List (Addr × Obj)} {σ : L2.St} {H : Hp} {s : Shared} {Q : VK} {as bs : List Value} {xs ys : List V} {x m : Str} {p pos apos : Pos} {o e : Expr} {es : List Expr} {ta : TE} {t tk : TA} {g : List Value → List Value → List Value} {gV : List V → List V → List V} {kws : List Keyword}
theorem FnG.call_ (F : FnG X.prog X.w X.K X.mg X.base CX k f fd ps sp) (ro : RoomG k X.A) (hg : Gl X x) (hm : X.mg x = some (.ref f)) (hk : PySem.W.keepIn X.K (.ref f) = true) (hb : Binds X.K fd ps ds) (hd : Vals dvs ds) (hx : ∀ σ, PassesAt CX X σ (E σ))
    (ha : PA X (e :: es) t) (hdb : (x == ("__debug__" : Str)) = false) (he : starEach (e :: es) X.env = (false, eval e X.env) :: starEach es X.env) (hpl : (backTo pos (starEach es X.env)).any (·.1) = false) :
    PE X (.Call (.Name x p) (e :: es) [] pos) (fun σ H Q => tCall sp dvs (E σ) t σ H Q) := by
  constructor
  intro pins s σ H Q I h
  apply wpAny_Call_Name_kw
  apply ld_glob I hg hm _ hdb
  exact PySem.W.callWith_K (h₀ := X.base) I.ok.mod.kin hk (thn (ha.run pos pins s σ H _ I h) fun as s1 ⟨xs, H1, J, r, q⟩ => ⟨J.kIn, F.pos_ ro hb hd (hx σ) J r q⟩) he hpl
theorem FnG.call0_ (F : FnG X.prog X.w X.K X.mg X.base CX k f fd ps sp) (ro : RoomG k X.A) (hg : Gl X x) (hm : X.mg x = some (.ref f)) (hk : PySem.W.keepIn X.K (.ref f) = true) (hb : Binds X.K fd ps ds) (hd : Vals dvs ds) (hx : ∀ σ, PassesAt CX X σ (E σ))
    (hdb : (x == ("__debug__" : Str)) = false) : PE X (.Call (.Name x p) [] [] pos) (fun σ H Q => tCall sp dvs (E σ) tNil σ H Q) := by
  constructor
  intro pins s σ H Q I h
  apply wpAny_Call_Name_kw
  apply ld_glob I hg hm _ hdb
  exact PySem.W.callWith_K0 I.kIn hk (F.pos_ (as := []) ro hb hd (hx σ) I .nil h)
theorem FnG.star_ (F : FnG X.prog X.w X.K X.mg X.base CX k f fd ps sp) (ro : RoomG k X.A) (hg : Gl X x) (hm : X.mg x = some (.ref f)) (hk : PySem.W.keepIn X.K (.ref f) = true) (hb : Binds X.K fd ps ds) (hd : Vals dvs ds) (hx : ∀ σ, PassesAt CX X σ (E σ))
    (ha : PA X (e :: es) t) (hdb : (x == ("__debug__" : Str)) = false) (he : starEach (e :: es) X.env = (false, eval e X.env) :: starEach es X.env) (hst : (backTo pos (starEach es X.env)).any (·.1) = true) :
    PE X (.Call (.Name x p) (e :: es) [] pos) (fun σ H Q => tCall sp dvs (E σ) t σ H Q) := by
  constructor
  intro pins s σ H Q I h
  apply wpAny_Call_Name_kw
  apply ld_glob I hg hm _ hdb
  exact PySem.W.callWith_S2 (h₀ := X.base) I.ok.mod.kin hk (thn (ha.run pos pins s σ H _ I h) fun as s1 ⟨xs, H1, J, r, q⟩ => ⟨J.kIn, F.pos_ ro hb hd (hx σ) J r q⟩) he hst
theorem FnG.callk_ (F : FnG X.prog X.w X.K X.mg X.base CX k f fd ps sp) (ro : RoomG k X.A) (hg : Gl X x) (hm : X.mg x = some (.ref f)) (hk : PySem.W.keepIn X.K (.ref f) = true) (hb : KBn X.K fd ps n ks g gV) (hx : ∀ σ, PassesAt CX X σ (E σ))
    (ha : PA X (e :: es) t) (hkw : PK X kws tk) (hall : (backToKw pos (keywordEach kws X.env)).all (·.1.isSome) = true) (hks : (backToKw pos (keywordEach kws X.env)).filterMap (·.1) = ks)
    (hdb : (x == ("__debug__" : Str)) = false) (he : starEach (e :: es) X.env = (false, eval e X.env) :: starEach es X.env) (hpl : ((backTo pos (starEach (e :: es) X.env)).any (·.1) || (backToKw pos (keywordEach kws X.env)).any (·.1.isNone)) = false) :
    PE X (.Call (.Name x p) (e :: es) kws pos) (fun σ H Q => tCallN n ks.length sp gV (E σ) t tk σ H Q) := by
  constructor
  intro pins s σ H Q I h
  apply wpAny_Call_Name_kw
  apply ld_glob I hg hm _ hdb
  refine PySem.W.callWith_KW (h₀ := X.base) I.ok.mod.kin hk hall (thn (ha.run pos pins s σ H _ I h) fun as s1 ⟨xs, H1, J, r, q⟩ => thn (hkw.run pos pins s1 σ H1 _ J q) fun bs s2 ⟨ys, H2, L, rk, l1, l2, q2⟩ => ⟨L.kIn, ?_⟩) hpl he
  subst hks
  exact F.kw_ ro hb (hx σ) L r rk l1 l2 q2
theorem FnG.callk0_ (F : FnG X.prog X.w X.K X.mg X.base CX k f fd ps sp) (ro : RoomG k X.A) (hg : Gl X x) (hm : X.mg x = some (.ref f)) (hk : PySem.W.keepIn X.K (.ref f) = true) (hb : KBn X.K fd ps 0 ks g gV) (hx : ∀ σ, PassesAt CX X σ (E σ))
    (hkw : PK X kws tk) (hall : (backToKw pos (keywordEach kws X.env)).all (·.1.isSome) = true) (hks : (backToKw pos (keywordEach kws X.env)).filterMap (·.1) = ks)
    (hdb : (x == ("__debug__" : Str)) = false) (hpl : ((backTo pos (starEach [] X.env)).any (·.1) || (backToKw pos (keywordEach kws X.env)).any (·.1.isNone)) = false) :
    PE X (.Call (.Name x p) [] kws pos) (fun σ H Q => tCallN 0 ks.length sp gV (E σ) tNil tk σ H Q) := by
  constructor
  intro pins s σ H Q I h
  apply wpAny_Call_Name_kw
  apply ld_glob I hg hm _ hdb
  refine PySem.W.callWith_KW0 (h₀ := X.base) I.ok.mod.kin hk hall (thn (hkw.run pos pins s σ H _ I h) fun bs s2 ⟨ys, H2, L, rk, l1, l2, q2⟩ => ⟨L.kIn, ?_⟩) hpl
  subst hks
  exact F.kw_ (as := []) ro hb (hx σ) L .nil rk l1 l2 q2
/-- the value of o, then the method m of its class -/
def MForm (X : Cx) (o : Expr) (m : Str) (apos : Pos) (es : List Expr) (kws : List Keyword) (pos : Pos) : Prop :=
  ∃ pl : Sem Bool, eval (.Call (.Attribute o m apos) es kws pos) X.env = (do
    let v ← eval o X.env
    standAt apos.atName
    let (fn, ahead) ← holding [v] (getMethod v m pl)
    callWith pos fn ahead (backTo pos (starEach es X.env)) (backToKw pos (keywordEach kws X.env)))
theorem FnG.meth_ (ho : PE X o ta) (c : Cls X.K C) (hm : Meth X.K C m f) (F : FnG X.prog X.w X.K X.mg X.base CX k f fd ps sp) (ro : RoomG k X.A) (hb : Binds X.K fd ps ds) (hd : Vals dvs ds) (hx : ∀ σ, PassesAt CX X σ (E σ)) (ha : PA X (e :: es) t)
    (he : starEach (e :: es) X.env = (false, eval e X.env) :: starEach es X.env) (hpl : (backTo pos (starEach es X.env)).any (·.1) = false) (ht : MForm X o m apos (e :: es) [] pos) :
    PE X (.Call (.Attribute o m apos) (e :: es) [] pos) (fun σ H Q => tMeth C m sp dvs (E σ) ta t σ H Q) := by
  constructor
  intro pins s σ H Q I h
  obtain ⟨pl, ht⟩ := ht
  refine PySem.W.methodCall_KW (pl := pl) (thn (ho.run pins s σ H _ I h) ?_) ht
  rintro v s1 ⟨y, H1, J, ry, a, q, fs, rfl, ea, l, h1⟩
  cases ry
  exact getmeth_ok J ea c hm l (PySem.W.callWith_K (first := [.ref a]) (h₀ := X.base) I.ok.mod.kin hm.kp (thn (ha.run pos pins s1 σ H1 _ J h1) fun as s2 ⟨xs, H2, L, r, h2⟩ => ⟨L.kIn, F.pos_ (as := .ref a :: as) (xs := .ref a :: xs) ro hb hd (hx σ) L (.cons rfl r) h2⟩) he hpl)
theorem FnG.meth0_ (ho : PE X o ta) (c : Cls X.K C) (hm : Meth X.K C m f) (F : FnG X.prog X.w X.K X.mg X.base CX k f fd ps sp) (ro : RoomG k X.A) (hb : Binds X.K fd ps ds) (hd : Vals dvs ds) (hx : ∀ σ, PassesAt CX X σ (E σ))
    (ht : MForm X o m apos [] [] pos) : PE X (.Call (.Attribute o m apos) [] [] pos) (fun σ H Q => tMeth C m sp dvs (E σ) ta tNil σ H Q) := by
  constructor
  intro pins s σ H Q I h
  obtain ⟨pl, ht⟩ := ht
  refine PySem.W.methodCall_KW (pl := pl) (thn (ho.run pins s σ H _ I h) ?_) ht
  rintro v s1 ⟨y, H1, J, ry, a, q, fs, rfl, ea, l, h1⟩
  cases ry
  exact getmeth_ok J ea c hm l (PySem.W.callWith_K0 (first := [.ref a]) J.kIn hm.kp (F.pos_ (as := [.ref a]) (xs := [.ref a]) ro hb hd (hx σ) J (.cons rfl .nil) h1))
/-- o.m(.., k = v): keywords alone, and a self ahead -/
theorem FnG.methk0_ (ho : PE X o ta) (c : Cls X.K C) (hm : Meth X.K C m f) (F : FnG X.prog X.w X.K X.mg X.base CX k f fd ps sp) (ro : RoomG k X.A) (hb : KBn X.K fd ps 1 ks g gV) (hx : ∀ σ, PassesAt CX X σ (E σ))
    (hkw : PK X kws tk) (hall : (backToKw pos (keywordEach kws X.env)).all (·.1.isSome) = true) (hks : (backToKw pos (keywordEach kws X.env)).filterMap (·.1) = ks)
    (hpl : ((backTo pos (starEach [] X.env)).any (·.1) || (backToKw pos (keywordEach kws X.env)).any (·.1.isNone)) = false) (ht : MForm X o m apos [] kws pos) :
    PE X (.Call (.Attribute o m apos) [] kws pos) (fun σ H Q => ta σ H fun y H1 => ∃ a q fs, y = .ref a ∧ H1 a = some (.ins C q fs) ∧ fs.lookup m = none ∧ tk σ H1 fun ys H2 => ys.length = ks.length ∧ sp (gV [y] ys) H2 Q (E σ)) := by
  constructor
  intro pins s σ H Q I h
  obtain ⟨pl, ht⟩ := ht
  refine PySem.W.methodCall_KW (pl := pl) (thn (ho.run pins s σ H _ I h) ?_) ht
  rintro v s1 ⟨y, H1, J, ry, a, q, fs, rfl, ea, l, h1⟩
  cases ry
  refine getmeth_ok J ea c hm l (PySem.W.callWith_KW0 (first := [.ref a]) (h₀ := X.base) I.ok.mod.kin hm.kp hall (thn (hkw.run pos pins s1 σ H1 _ J h1) fun bs s2 ⟨ys, H2, L, rk, l2, q2⟩ => ⟨L.kIn, ?_⟩) hpl)
  subst hks
  exact F.kw_ (as := [.ref a]) (xs := [.ref a]) ro hb (hx σ) L (.cons rfl .nil) rk rfl l2 q2
theorem FnG.make_ (mk : Mk X.K C f) (F : FnG X.prog X.w X.K X.mg X.base CX k f fd ps sp) (ro : RoomG (k + 1) X.A) (hg : Gl X x) (hm : X.mg x = some (.ref C)) (hb : Binds X.K fd ps ds) (hd : Vals dvs ds) (hx : ∀ σ, PassesAt CX X σ (E σ))
    (ha : PA X (e :: es) t) (hdb : (x == ("__debug__" : Str)) = false) (he : starEach (e :: es) X.env = (false, eval e X.env) :: starEach es X.env) (hpl : (backTo pos (starEach es X.env)).any (·.1) = false) :
    PE X (.Call (.Name x p) (e :: es) [] pos) (fun σ H Q => tMake C sp dvs (E σ) t σ H Q) := by
  constructor
  intro pins s σ H Q I h
  apply wpAny_Call_Name_kw
  apply ld_glob I hg hm _ hdb
  refine PySem.W.callWith_K (h₀ := X.base) I.ok.mod.kin mk.kp (thn (ha.run pos pins s σ H _ I h) fun as s1 ⟨xs, H1, J, r, q⟩ => ⟨J.kIn, ?_⟩) he hpl
  refine F.made (M := fun a => .ref a :: (xs ++ dvs)) mk ro (hx σ) J (fun t kt => ?_) q
  have rr : Vals (V.ref (s1.heap.objs.size + 1) :: (xs ++ dvs)) (Value.ref (s1.heap.objs.size + 1) :: (as ++ ds)) := .cons rfl (r.append hd)
  refine ⟨_, hb t (.ref (s1.heap.objs.size + 1) :: as) kt ?_, rr⟩
  exact rr.length.symm.trans (F.num _ _ _ _ (q (s1.heap.objs.size + 1) s1.heap.objs.size (J.hok.fresh (Nat.le_succ _)) (J.hok.fresh (Nat.le_refl _)) (Nat.ne_of_lt (Nat.lt_succ_self _))))
theorem FnG.makek_ (mk : Mk X.K C f) (F : FnG X.prog X.w X.K X.mg X.base CX k f fd ps sp) (ro : RoomG (k + 1) X.A) (hg : Gl X x) (hm : X.mg x = some (.ref C)) (hb : KBn X.K fd ps (n + 1) ks g gV) (hx : ∀ σ, PassesAt CX X σ (E σ))
    (ha : PA X (e :: es) t) (hkw : PK X kws tk) (hall : (backToKw pos (keywordEach kws X.env)).all (·.1.isSome) = true) (hks : (backToKw pos (keywordEach kws X.env)).filterMap (·.1) = ks)
    (hdb : (x == ("__debug__" : Str)) = false) (he : starEach (e :: es) X.env = (false, eval e X.env) :: starEach es X.env) (hpl : ((backTo pos (starEach (e :: es) X.env)).any (·.1) || (backToKw pos (keywordEach kws X.env)).any (·.1.isNone)) = false) :
    PE X (.Call (.Name x p) (e :: es) kws pos) (fun σ H Q => tMakeN C n ks.length sp gV (E σ) t tk σ H Q) := by
  constructor
  intro pins s σ H Q I h
  apply wpAny_Call_Name_kw
  apply ld_glob I hg hm _ hdb
  refine PySem.W.callWith_KW (h₀ := X.base) I.ok.mod.kin mk.kp hall (thn (ha.run pos pins s σ H _ I h) fun as s1 ⟨xs, H1, J, r, q⟩ => thn (hkw.run pos pins s1 σ H1 _ J q) fun bs s2 ⟨ys, H2, L, rk, l1, l2, q2⟩ => ⟨L.kIn, ?_⟩) hpl he
  subst hks
  exact F.made (M := fun a => gV (.ref a :: xs) ys) mk ro (hx σ) L (fun t kt => ⟨_, hb.to t (.ref (s2.heap.objs.size + 1) :: as) bs kt (by rw [List.length_cons, ← r.length, l1]) (rk.length ▸ l2), hb.rel (.cons rfl r) rk⟩) q2
theorem FnG.makek0_ (mk : Mk X.K C f) (F : FnG X.prog X.w X.K X.mg X.base CX k f fd ps sp) (ro : RoomG (k + 1) X.A) (hg : Gl X x) (hm : X.mg x = some (.ref C)) (hb : KBn X.K fd ps 1 ks g gV) (hx : ∀ σ, PassesAt CX X σ (E σ))
    (hkw : PK X kws tk) (hall : (backToKw pos (keywordEach kws X.env)).all (·.1.isSome) = true) (hks : (backToKw pos (keywordEach kws X.env)).filterMap (·.1) = ks)
    (hdb : (x == ("__debug__" : Str)) = false) (hpl : ((backTo pos (starEach [] X.env)).any (·.1) || (backToKw pos (keywordEach kws X.env)).any (·.1.isNone)) = false) :
    PE X (.Call (.Name x p) [] kws pos) (fun σ H Q => tMakeN C 0 ks.length sp gV (E σ) tNil tk σ H Q) := by
  constructor
  intro pins s σ H Q I h
  apply wpAny_Call_Name_kw
  apply ld_glob I hg hm _ hdb
  refine PySem.W.callWith_KW0 (h₀ := X.base) I.ok.mod.kin mk.kp hall (thn (hkw.run pos pins s σ H _ I h) fun bs s2 ⟨ys, H2, L, rk, l1, l2, q2⟩ => ⟨L.kIn, ?_⟩) hpl
  subst hks
  exact F.made (M := fun a => gV [.ref a] ys) mk ro (hx σ) L (fun t kt => ⟨_, hb.to t [.ref (s2.heap.objs.size + 1)] bs kt rfl (rk.length ▸ l2), hb.rel (.cons rfl .nil) rk⟩) q2
/-- a property's getter -/
theorem FnG.prop_ {pr : Addr} (ho : PE X e ta) (c : Cls X.K C) (hp : PropOf X.K C m pr f) (F : FnG X.prog X.w X.K X.mg X.base CX k f fd ps sp) (ro : RoomG (k + 1) X.A) (hb : Binds X.K fd ps ds) (hd : Vals dvs ds) (hx : ∀ σ, PassesAt CX X.nox σ (E σ))
    (hab : attributeBase e m X.env (eval e X.env) = eval e X.env) : PE X (.Attribute e m pos) (fun σ H Q => tProp C sp dvs (E σ) ta σ H Q) := by
  constructor
  intro pins s σ H Q I h
  refine attr_of hab (thn (ho.run pins s σ H _ I h) ?_)
  rintro v s1 ⟨y, H1, J, ry, a, q, fs, rfl, ea, h1⟩
  cases ry
  obtain ⟨mA, O, _, _, _, _⟩ := ins_get J.hok ea
  obtain ⟨od, at_, _⟩ := O.look
  obtain ⟨rest, hrec⟩ := hp.rec_
  have L := J.tok (s1.toks + 1)
  have hc : (PySem.W.clsIn X.K C).isSome = true := by obtain ⟨cd, hc, _⟩ := PySem.W.any_some c.hd; rw [hc]; rfl
  have len : ([Value.ref a] ++ ds).length = ps.length := by
    have z := F.num _ _ _ _ h1
    rw [← z, List.length_append, List.length_cons, ← hd.length]
    exact Nat.add_comm _ _
  refine PySem.W.get_bind J.kIn at_ (PySem.W.plainGet_of (c.get m)).1 (PySem.W.findObj_data hc hp.at_ hp.get hp.tak) (PySem.W.plainGet_of (c.get m)).2 ?_
  refine wpAny_call (PySem.W.prop_get (s := { s1 with toks := s1.toks + 1 }) J.kIn hrec (codeAny_mono (F.go (xs := .ref a :: dvs) ro.in1 L.env0.in1 (hb _ [.ref a] L.kIn len) (.cons rfl hd) h1) fun r s' hq => ?_))
  cases r with
  | error er => exact (hx σ pins H1 _ er s' (L.wish _) hq).elim
  | ok fl =>
    cases fl with
    | ret u =>
      obtain ⟨v, H', M, rv, q3⟩ := L.after hq
      show wpAny _ _ (handedOut u) _ _ _
      rw [PySem.W.handedOut_of (handed_of rv)]
      exact wpAny_pure ⟨v, H', M, rv, q3⟩
    | _ => exact hq.elim
end
end VM

/-! VM5: comprehensions, calls of defs, bodies of defs. -/
namespace VM
open PySem PySem.Spec PyProof.Rows L2

/-! ### comprehensions -/
def xF : XC := fun _ _ _ => False
def wipeE (es : Es) : List Nat → Es
  | [] => es
  | v :: vs => (wipeE es vs).set v none
theorem wipeE_length (es : Es) : ∀ vs, (wipeE es vs).length = es.length
  | [] => rfl
  | v :: vs => by simp [wipeE, wipeE_length es vs]
theorem Rl.set_none {K mg Hd eh H} {es : Es} {σ : L2.St} {i : Nat} (R : Rl K mg Hd eh H es σ) : Rl K mg Hd eh H (es.set i none) (σ.set i none) := by
  refine ⟨by simp [R.len], fun j y e => ?_, R.obj⟩
  by_cases h : i = j
  · subst h
    rw [List.getElem?_set] at e
    simp only [ite_true] at e
    split at e <;> cases e
  · rw [List.getElem?_set_ne h] at e
    obtain ⟨w, hw, q⟩ := R.loc j y e
    exact ⟨w, by rw [List.getElem?_set_ne h]; exact hw, q⟩
theorem Rl.wipe {K mg Hd eh H} {es : Es} {σ : L2.St} (R : Rl K mg Hd eh H es σ) : ∀ vs, Rl K mg Hd eh H (wipeE es vs) (wipe σ vs)
  | [] => R
  | v :: vs => (R.wipe vs).set_none
theorem getElem_wipe (σ : L2.St) : ∀ (vs : List Nat) (i : Nat), (wipe σ vs)[i]? = if i ∈ vs then (if i < σ.length then some none else none) else σ[i]?
  | [], i => by simp [wipe]
  | v :: vs, i => by
    unfold wipe
    rw [List.getElem?_set, wipe_length, getElem_wipe σ vs i]
    by_cases h : v = i
    · subst h; simp
    · have h' : ¬ i = v := fun z => h z.symm
      simp [h, h']
theorem wipe_same {σ σ' : L2.St} {vs : List Nat} (hl : σ'.length = σ.length) (h : ∀ i, i ∉ vs → σ'[i]? = σ[i]?) : wipe σ' vs = wipe σ vs := by
  apply List.ext_getElem?
  intro i
  rw [getElem_wipe, getElem_wipe, hl]
  by_cases hi : i ∈ vs
  · simp [hi]
  · simp [hi, h i hi]
theorem wipe_wipe {σ : L2.St} {vs : List Nat} : wipe (wipe σ vs) vs = wipe σ vs :=
  wipe_same (wipe_length σ vs) fun i hi => by rw [getElem_wipe]; simp [hi]
def compL (g : Tg) (tt : MT) (te : ME) (vs : List Nat) (ok : Eh → Prop) (q : KE) : List EV → List EV → Es → Eh → Prop
  | [], acc, es, eh => ok eh ∧ q (.lst acc) eh
  | x :: xs, acc, es, eh => ok eh ∧ ∃ es', asg g x (wipeE es vs) = some es' ∧ tt xF es' eh fun b eh1 => match b with
    | true => te xF es' eh1 fun y eh2 => acc.length < sizeLine ∧ compL g tt te vs ok q xs (acc ++ [y]) es eh2
    | false => compL g tt te vs ok q xs acc es eh1
def mComp (mi : MI) (g : Tg) (tt : MT) (te : ME) (vs : List Nat) : ME := fun xc es eh q => mi xc es eh fun xs ok eh1 => compL g tt te vs ok q xs [] es eh1
def tYesE : MT := fun _ _ eh q => q true eh
/-- two sources: behind the outer target the inner source is walked -/
def comp2In (g : Tg) (tt : MT) (te : ME) (vs : List Nat) (ok : Eh → Prop) (k : List EV → Eh → Prop) : List EV → List EV → Es → Eh → Prop
  | [], acc, es, eh => ok eh ∧ k acc eh
  | x :: xs, acc, es, eh => ok eh ∧ ∃ es', asg g x (wipeE es vs) = some es' ∧ tt xF es' eh fun b eh1 => match b with
    | true => te xF es' eh1 fun y eh2 => acc.length < sizeLine ∧ comp2In g tt te vs ok k xs (acc ++ [y]) es eh2
    | false => comp2In g tt te vs ok k xs acc es eh1
def comp2L (g : Tg) (tt : MT) (mi1 : MI) (g1 : Tg) (tt1 : MT) (te : ME) (vs vs1 : List Nat) (ok : Eh → Prop) (q : KE) : List EV → List EV → Es → Eh → Prop
  | [], acc, es, eh => ok eh ∧ q (.lst acc) eh
  | x :: xs, acc, es, eh => ok eh ∧ ∃ es', asg g x (wipeE es vs) = some es' ∧ tt xF es' eh fun b eh1 => match b with
    | true => mi1 xF es' eh1 fun ys ok1 eh2 => comp2In g1 tt1 te vs1 ok1 (fun acc' eh3 => comp2L g tt mi1 g1 tt1 te vs vs1 ok q xs acc' es eh3) ys acc es' eh2
    | false => comp2L g tt mi1 g1 tt1 te vs vs1 ok q xs acc es eh1
def mComp2 (mi : MI) (g : Tg) (tt : MT) (mi1 : MI) (g1 : Tg) (tt1 : MT) (te : ME) (vs vs1 : List Nat) : ME := fun xc es eh q => mi xc es eh fun xs ok eh1 => comp2L g tt mi1 g1 tt1 te vs vs1 ok q xs [] es eh1
theorem XOk.no {K mg Hd eh H} : XOk K mg E0 Hd eh H xF := fun _ _ _ _ _ _ _ _ _ _ _ _ h => h.elim
section
variable {K : PySem.W.Frag} {mg : Str → Option Value} {E : XK} {Hd : Addr → Prop} {eh : Eh} {H : Hp} {D : Addr}
/-- one more is hidden: the new list -/
theorem hide {vs : List V} (R : Rh K mg Hd eh H) (n : H D = none) : Rh K mg (fun a => Hd a ∨ a = D) eh (upd H D (.lst vs)) := by
  refine ⟨tabs_new R.tb n, fun a u e => ?_, fun a z => ?_⟩
  · obtain ⟨w, hw, _⟩ := (R.ob a u e).some
    exact ((R.ob a u e).hid fun b z => z.elim .inl fun z => .inr (z ▸ n)).step' (.newF n) (upd_ne (ne_of_none hw n))
  · rcases z with z | z
    · exact (R.newF n).hd a z
    · subst z; exact ⟨⟨_, upd_same⟩, R.fresh n⟩
/-- what is hidden is written -/
theorem hid_ne (hd : Hd D) {a : Addr} (n : ¬ Hd a) : a ≠ D := fun z => n (z ▸ hd)
section
variable (hd : Hd D) {va : List V} (e : H D = some (.lst va)) (o : HO)
include hd e
theorem SqT.hw {a : Addr} {vs : List V} (h : SqT K H a vs) : SqT K (upd H D o) a vs := by
  rcases h with (h | ⟨w, h⟩) | h
  · exact .inl (.inl (by rw [upd_ne fun z => by subst z; rw [e] at h; cases h]; exact h))
  · exact .inl (.inr ⟨w, by rw [upd_ne fun z => by subst z; rw [e] at h; cases h]; exact h⟩)
  · exact .inr h
mutual
theorem Rp.hw : ∀ {x : EV} {v : V}, Rp K mg Hd eh H x v → Rp K mg Hd eh (upd H D o) x v
  | .non, _, h => h
  | .bl _, _, h => h
  | .int _, _, h => h
  | .str _, _, h => h
  | .ty _, _, h => h
  | .ref _, _, h => h
  | .glo _, _, h => h
  | .tup xs, _, ⟨a, vs, z, h, r⟩ => ⟨a, vs, z, SqT.hw hd e o h, RpL.hw r⟩
  | .scr ns, _, ⟨a, z, h⟩ => ⟨a, z, by
    rcases h with ⟨w, h⟩ | ⟨h, n, m⟩ | h
    · exact .inl ⟨w, by rw [upd_ne fun z => by subst z; rw [e] at h; cases h]; exact h⟩
    · exact .inr (.inl ⟨by rw [upd_ne (hid_ne hd m)]; exact h, n, m⟩)
    · exact .inr (.inr h)⟩
  | .lst xs, _, ⟨a, vs, z, h, n, r⟩ => ⟨a, vs, z, by rw [upd_ne (hid_ne hd n.2)]; exact h, n, RpL.hw r⟩
  | .dct xs, _, ⟨a, w, vs, z, h, r⟩ => ⟨a, w, vs, z, by rw [upd_ne fun z => by subst z; rw [e] at h; cases h]; exact h, RpK.hw r⟩
  | .obj C fs, _, ⟨a, c, dx, us, z, m, h, n, r⟩ => ⟨a, c, dx, us, z, m, by rw [upd_ne (hid_ne hd n.2)]; exact h, n, RpF.hw r⟩
  | .exc C x, _, ⟨a, c, d, u, z, m, h, h', n, n', r⟩ => ⟨a, c, d, u, z, m, by rw [upd_ne (hid_ne hd n.2)]; exact h, by rw [upd_ne (hid_ne hd n'.2)]; exact h', n, n', Rp.hw r⟩
  | .exa _ C x, _, ⟨a, c, d, u, z, m, h, h', n, n', r⟩ => ⟨a, c, d, u, z, m, by rw [upd_ne (hid_ne hd n.2)]; exact h, by rw [upd_ne (hid_ne hd n'.2)]; exact h', n, n', Rp.hw r⟩
theorem RpL.hw : ∀ {x : List EV} {v : List V}, RpL K mg Hd eh H x v → RpL K mg Hd eh (upd H D o) x v
  | [], _, h => h
  | _ :: _, _, ⟨v, r, z, h, t⟩ => ⟨v, r, z, Rp.hw h, RpL.hw t⟩
theorem RpK.hw : ∀ {x : List (Key × EV)} {v : List (Key × V)}, RpK K mg Hd eh H x v → RpK K mg Hd eh (upd H D o) x v
  | [], _, h => h
  | (_, _) :: _, _, ⟨v, r, z, h, t⟩ => ⟨v, r, z, Rp.hw h, RpK.hw t⟩
theorem RpF.hw : ∀ {x : List (Str × EV)} {v : List (Str × V)}, RpF K mg Hd eh H x v → RpF K mg Hd eh (upd H D o) x v
  | [], _, h => h
  | (_, _) :: _, _, ⟨v, r, z, h, t⟩ => ⟨v, r, z, Rp.hw h, RpF.hw t⟩
end
end
theorem Rh.hw (R : Rh K mg Hd eh H) (hd : Hd D) {va : List V} (e : H D = some (.lst va)) (vb : List V) : Rh K mg Hd eh (upd H D (.lst vb)) := by
  refine ⟨tabs_write R.tb e (fun _ z => nomatch z) (fun _ z => nomatch z), fun a u ea => ?_, fun a z => ?_⟩
  · have na : a ≠ D := fun z => by subst z; have := (R.hd a hd).2; rw [ea] at this; cases this
    have z := R.ob a u ea
    cases u with
    | lst xs => obtain ⟨vs, q, r⟩ := z; exact ⟨vs, by rw [upd_ne na]; exact q, r.hw hd e _⟩
    | dct xs => obtain ⟨vs, q, r⟩ := z; exact ⟨vs, by rw [upd_ne na]; exact q, r.hw hd e _⟩
    | ins C fs => obtain ⟨c, dx, us, m, q, r⟩ := z; exact ⟨c, dx, us, m, by rw [upd_ne na]; exact q, r.hw hd e _⟩
  · obtain ⟨⟨w, hw⟩, n⟩ := R.hd a z
    by_cases ha : a = D
    · subst ha; exact ⟨⟨_, upd_same⟩, n⟩
    · exact ⟨⟨w, by rw [upd_ne ha]; exact hw⟩, n⟩
theorem Step.over {eh' : Eh} {H' : Hp} {o : HO} (s : Step eh H eh' H') (n : H D = none) : Step eh H eh' (upd H' D o) :=
  ⟨fun a u h m t => ⟨by rw [upd_ne (ne_of_none h n)]; exact (s.st a u h m t).1, (s.st a u h m t).2⟩, fun a xs h => by rw [upd_ne (ne_of_none h n)]; exact s.tup a xs h, fun a w u h => by rw [upd_ne (ne_of_none h n)]; exact s.frz a w u h⟩
theorem Rl.hid {Hd' : Addr → Prop} {es : Es} {σ : L2.St} (R : Rl K mg Hd eh H es σ) (i : ∀ a, Hd' a → Hd a ∨ H a = none) {eh' : Eh} {H' : Hp} (s : Step eh H eh' H') (R' : Rh K mg Hd' eh' H') : Rl K mg Hd' eh' H' es σ :=
  ⟨R.len, fun j x e => let ⟨v, a, b⟩ := R.loc j x e; ⟨v, a, (b.hid i).step s⟩, R'⟩
section
variable {K : PySem.W.Frag} {mg : Str → Option Value} {Hd : Addr → Prop} {eh : Eh} {H : Hp} {D : Addr} {o : Option EO}
mutual
theorem Rp.unh : ∀ {x : EV} {v : V}, Rp K mg (fun a => Hd a ∨ a = D) eh H x v → Rp K mg Hd (eupd eh D o) H x v
  | .non, _, h => h
  | .bl _, _, h => h
  | .int _, _, h => h
  | .str _, _, h => h
  | .ty _, _, h => h
  | .ref _, _, h => h
  | .glo _, _, h => h
  | .tup xs, _, ⟨a, vs, z, h, r⟩ => ⟨a, vs, z, h, RpL.unh r⟩
  | .scr ns, _, ⟨a, z, h⟩ => ⟨a, z, by
    rcases h with ⟨w, h⟩ | ⟨h, n, m⟩ | h
    · exact .inl ⟨w, h⟩
    · exact .inr (.inl ⟨h, by rw [eupd_ne fun z => m (.inr z)]; exact n, fun z => m (.inl z)⟩)
    · exact .inr (.inr h)⟩
  | .lst xs, _, ⟨a, vs, z, h, n, r⟩ => ⟨a, vs, z, h, ⟨by rw [eupd_ne fun z => n.2 (.inr z)]; exact n.1, fun z => n.2 (.inl z)⟩, RpL.unh r⟩
  | .dct xs, _, ⟨a, w, vs, z, h, r⟩ => ⟨a, w, vs, z, h, RpK.unh r⟩
  | .obj C fs, _, ⟨a, c, dx, us, z, m, h, n, r⟩ => ⟨a, c, dx, us, z, m, h, ⟨by rw [eupd_ne fun z => n.2 (.inr z)]; exact n.1, fun z => n.2 (.inl z)⟩, RpF.unh r⟩
  | .exc C x, _, ⟨a, c, d, u, z, m, h, h', n, n', r⟩ => ⟨a, c, d, u, z, m, h, h', ⟨by rw [eupd_ne fun z => n.2 (.inr z)]; exact n.1, fun z => n.2 (.inl z)⟩, ⟨by rw [eupd_ne fun z => n'.2 (.inr z)]; exact n'.1, fun z => n'.2 (.inl z)⟩, Rp.unh r⟩
  | .exa _ C x, _, ⟨a, c, d, u, z, m, h, h', n, n', r⟩ => ⟨a, c, d, u, z, m, h, h', ⟨by rw [eupd_ne fun z => n.2 (.inr z)]; exact n.1, fun z => n.2 (.inl z)⟩, ⟨by rw [eupd_ne fun z => n'.2 (.inr z)]; exact n'.1, fun z => n'.2 (.inl z)⟩, Rp.unh r⟩
theorem RpL.unh : ∀ {x : List EV} {v : List V}, RpL K mg (fun a => Hd a ∨ a = D) eh H x v → RpL K mg Hd (eupd eh D o) H x v
  | [], _, h => h
  | _ :: _, _, ⟨v, r, z, h, t⟩ => ⟨v, r, z, Rp.unh h, RpL.unh t⟩
theorem RpK.unh : ∀ {x : List (Key × EV)} {v : List (Key × V)}, RpK K mg (fun a => Hd a ∨ a = D) eh H x v → RpK K mg Hd (eupd eh D o) H x v
  | [], _, h => h
  | (_, _) :: _, _, ⟨v, r, z, h, t⟩ => ⟨v, r, z, Rp.unh h, RpK.unh t⟩
theorem RpF.unh : ∀ {x : List (Str × EV)} {v : List (Str × V)}, RpF K mg (fun a => Hd a ∨ a = D) eh H x v → RpF K mg Hd (eupd eh D o) H x v
  | [], _, h => h
  | (_, _) :: _, _, ⟨v, r, z, h, t⟩ => ⟨v, r, z, Rp.unh h, RpF.unh t⟩
end
theorem Rh.unh {acc : List EV} {va : List V} (R : Rh K mg (fun a => Hd a ∨ a = D) eh H) (nH : ¬ Hd D) (e : H D = some (.lst va)) (r : RpL K mg (fun a => Hd a ∨ a = D) eh H acc va) : Rh K mg Hd (eupd eh D (some (.lst acc))) H := by
  refine ⟨R.tb, fun a u ea => ?_, fun a z => ?_⟩
  · by_cases ha : a = D
    · subst ha
      rw [eupd_same] at ea; cases ea
      exact ⟨va, e, r.unh⟩
    · rw [eupd_ne ha] at ea
      have z := R.ob a u ea
      cases u with
      | lst xs => obtain ⟨vs, q, r⟩ := z; exact ⟨vs, q, r.unh⟩
      | dct xs => obtain ⟨vs, q, r⟩ := z; exact ⟨vs, q, r.unh⟩
      | ins C fs => obtain ⟨c, dx, us, m, q, r⟩ := z; exact ⟨c, dx, us, m, q, r.unh⟩
  · obtain ⟨h, n⟩ := R.hd a (.inl z)
    by_cases ha : a = D
    · subst ha; exact absurd z nH
    · exact ⟨h, by rw [eupd_ne ha]; exact n⟩
end
theorem lc_gen {mi : MI} {g : Tg} {tt : MT} {te : ME} {vs : List Nat} (hv : ∀ i ∈ slots g, i ∈ vs) {σ : L2.St} {H : Hp} {Q : VK} {q : KE} {Hd : Addr → Prop} {es : Es} {eh : Eh} {xc : XC} (R : Rl K mg Hd eh H es σ) (xo : XOk K mg E Hd eh H xc) (m : mComp mi g tt te vs xc es eh q)
    (k : ∀ ehA HA, Step eh H ehA HA → ∀ eh1 H1 acc D va, HA D = none → Step ehA HA eh1 H1 → Rh K mg (fun a => Hd a ∨ a = D) eh1 H1 → H1 D = some (.lst va) → eh1 D = none → ¬ Hd D → RpL K mg (fun a => Hd a ∨ a = D) eh1 H1 acc va → q (.lst acc) eh1 → Q (.ref D) H1) : tLc (UI K mg E mi) (UG K mg g) (UT K mg E0 tt) (U K mg E0 te) vs σ H Q :=
  ⟨Hd, es, eh, xc, _, R, xo, m, fun ehA HA xs ok J sA RA jo mA D hD => by
    have hh : ∀ a, (Hd a ∨ a = D) → Hd a ∨ HA a = none := fun a z => z.elim .inl fun z => .inr (z ▸ hD)
    have RlA := R.step sA RA
    refine ⟨fun i n H => ∃ eh acc va, i + n = xs.length ∧ Step ehA HA eh H ∧ Rh K mg (fun a => Hd a ∨ a = D) eh H ∧ H D = some (.lst va) ∧ RpL K mg (fun a => Hd a ∨ a = D) eh H acc va ∧ compL g tt te vs ok q (xs.drop i) acc es eh,
      ⟨xs.length, ehA, [], [], by omega, .newF hD, hide RA hD, upd_same, .nil, mA⟩, ?_⟩
    rintro i n H ⟨eh, acc, va, hn, s1, R1, eD, rA, f⟩
    cases hd : xs.drop i with
    | nil =>
      rw [hd] at f
      have : xs.length ≤ i := by simpa using hd
      exact .inl ⟨jo.stop i _ eh H hh s1.w R1 f.1 this, k ehA HA sA eh H acc D va hD s1 R1 eD (R1.hd D (.inr rfl)).2 (RA.notHid hD) rA f.2⟩
    | cons x r =>
      rw [hd] at f
      obtain ⟨hx, hr, hl⟩ := drop_cons hd
      obtain ⟨o, es', ea, f⟩ := f
      refine .inr ⟨jo.go i _ eh H hh s1.w R1 o hl, fun H => ∃ eh acc va, (i + 1) + (n - 1) = xs.length ∧ Step ehA HA eh H ∧ Rh K mg (fun a => Hd a ∨ a = D) eh H ∧ H D = some (.lst va) ∧ RpL K mg (fun a => Hd a ∨ a = D) eh H acc va ∧ compL g tt te vs ok q (xs.drop (i + 1)) acc es eh,
        fun H' w => ⟨n - 1, by omega, w⟩, fun v H2 y => ?_⟩
      obtain ⟨x', hx', s2, R2, r2, kp⟩ := jo.yld i _ eh H v H2 hh s1.w R1 o hl y
      rw [hx] at hx'; cases hx'
      have eD2 := kp D _ eD
      have nD := (R1.hd D (.inr rfl)).2
      have Rs : Rl K mg (fun a => Hd a ∨ a = D) eh H2 es σ := RlA.hid hh (s1.trans s2) R2
      refine ⟨_, wipeE es vs, eh, x, es', Rs.wipe vs, r2, ea, fun σ3 R3 l3 s3 => ⟨?_, _, es', eh, xF, _, R3, .no, f, fun eh4 H4 b s4 R4 f4 => ?_⟩⟩
      · refine (wipe_same (σ := wipe σ vs) l3 fun i hi => s3 i fun z => hi (hv i z)).trans wipe_wipe
      · have e4 := s4.st D _ eD2 nD (fun _ z => nomatch z)
        cases b with
        | true =>
          refine iteT ⟨_, es', eh4, xF, _, R3.step s4 R4, .no, f4, fun eh5 H5 y v s5 R5 r5 ⟨hl, f5⟩ => ?_⟩
          have e5 := s5.st D _ e4.1 e4.2 (fun _ z => nomatch z)
          refine ⟨va, e5.1, by rw [← rA.length]; exact hl, eh5, acc ++ [y], va ++ [v], by omega, ((s1.trans (s2.trans (s4.trans s5)))).over hD, R5.hw (.inr rfl) e5.1 _, upd_same, ?_, by rw [hr]; exact f5⟩
          exact RpL.hw (.inr rfl) e5.1 _ ((rA.step (s2.trans (s4.trans s5))).append (.one r5))
        | false => exact iteF ⟨eh4, acc, va, by omega, s1.trans (s2.trans s4), R4, e4.1, rA.step (s2.trans s4), by rw [hr]; exact f4⟩⟩
theorem lc_lift {mi : MI} {g : Tg} {tt : MT} {te : ME} {vs : List Nat} (hv : ∀ i ∈ slots g, i ∈ vs) : ∀ σ H Q, U K mg E (mComp mi g tt te vs) σ H Q → tLc (UI K mg E mi) (UG K mg g) (UT K mg E0 tt) (U K mg E0 te) vs σ H Q :=
  fun σ H Q ⟨Hd, es, eh, xc, q, R, xo, m, k⟩ => lc_gen hv R xo m fun ehA HA sA eh H acc D va hD s1 R1 eD nD nH rA f => k eh H (.lst acc) (.ref D) (sA.trans s1) (R1.less fun _ z => .inl z) ⟨D, va, rfl, eD, ⟨nD, nH⟩, rA.hid fun _ z => .inl (.inl z)⟩ f
/-- a list comprehension whose list will be written -/
def qRef (q : KE) : KE := fun z eh => ∃ acc, z = .lst acc ∧ ∀ p, eh p = none → q (.ref p) (eupd eh p (some (.lst acc)))
def mCompR (mi : MI) (g : Tg) (tt : MT) (te : ME) (vs : List Nat) : ME := fun xc es eh q => mComp mi g tt te vs xc es eh (qRef q)
theorem lc_liftR {mi : MI} {g : Tg} {tt : MT} {te : ME} {vs : List Nat} (hv : ∀ i ∈ slots g, i ∈ vs) : ∀ σ H Q, U K mg E (mCompR mi g tt te vs) σ H Q → tLc (UI K mg E mi) (UG K mg g) (UT K mg E0 tt) (U K mg E0 te) vs σ H Q :=
  fun σ H Q ⟨Hd, es, eh, xc, q, R, xo, m, k⟩ => lc_gen hv R xo m fun ehA HA sA eh1 H1 acc D va hD s1 R1 eD nD nH rA ⟨acc', e, f⟩ => by
    cases e
    refine k (eupd eh1 D (some (.lst acc))) H1 (.ref D) (.ref D) ⟨fun a o h n t => ⟨((sA.trans s1).st a o h n t).1, ?_⟩, (sA.trans s1).tup, (sA.trans s1).frz⟩ (R1.unh nH eD rA) rfl (f D nD)
    by_cases ha : a = D
    · subst ha
      have := (sA.st a o h n t).1
      rw [hD] at this; cases this
    · rw [eupd_ne ha]; exact ((sA.trans s1).st a o h n t).2
theorem lc2_lift {mi mi1 : MI} {g g1 : Tg} {tt tt1 : MT} {te : ME} {vs vs1 : List Nat} (hv : ∀ i ∈ slots g, i ∈ vs) (hv1 : ∀ i ∈ slots g1, i ∈ vs1) : ∀ σ H Q, U K mg E (mComp2 mi g tt mi1 g1 tt1 te vs vs1) σ H Q →
    tLc2 (UI K mg E mi) (UG K mg g) (UT K mg E0 tt) (UI K mg E0 mi1) (UG K mg g1) (UT K mg E0 tt1) (U K mg E0 te) vs vs1 σ H Q :=
  fun σ H Q ⟨Hd, es, eh, xc, q, R, xo, m, k⟩ => ⟨Hd, es, eh, xc, _, R, xo, m, fun ehA HA xs ok J sA RA jo mA D hD => by
    have hh : ∀ a, (Hd a ∨ a = D) → Hd a ∨ HA a = none := fun a z => z.elim .inl fun z => .inr (z ▸ hD)
    have RlA := R.step sA RA
    refine ⟨fun i n H => ∃ eh acc va, i + n = xs.length ∧ Step ehA HA eh H ∧ Rh K mg (fun a => Hd a ∨ a = D) eh H ∧ H D = some (.lst va) ∧ RpL K mg (fun a => Hd a ∨ a = D) eh H acc va ∧ comp2L g tt mi1 g1 tt1 te vs vs1 ok q (xs.drop i) acc es eh,
      ⟨xs.length, ehA, [], [], by omega, .newF hD, hide RA hD, upd_same, .nil, mA⟩, ?_⟩
    rintro i n H ⟨eh, acc, va, hn, s1, R1, eD, rA, f⟩
    cases hd : xs.drop i with
    | nil =>
      rw [hd] at f
      have : xs.length ≤ i := by simpa using hd
      exact .inl ⟨jo.stop i _ eh H hh s1.w R1 f.1 this, k eh H (.lst acc) (.ref D) (sA.trans s1) (R1.less fun _ z => .inl z) ⟨D, va, rfl, eD, ⟨(R1.hd D (.inr rfl)).2, RA.notHid hD⟩, rA.hid fun _ z => .inl (.inl z)⟩ f.2⟩
    | cons x r =>
      rw [hd] at f
      obtain ⟨hx, hr, hl⟩ := drop_cons hd
      obtain ⟨o, es', ea, f⟩ := f
      refine .inr ⟨jo.go i _ eh H hh s1.w R1 o hl, fun H => ∃ eh acc va, (i + 1) + (n - 1) = xs.length ∧ Step ehA HA eh H ∧ Rh K mg (fun a => Hd a ∨ a = D) eh H ∧ H D = some (.lst va) ∧ RpL K mg (fun a => Hd a ∨ a = D) eh H acc va ∧ comp2L g tt mi1 g1 tt1 te vs vs1 ok q (xs.drop (i + 1)) acc es eh,
        fun H' w => ⟨n - 1, by omega, w⟩, fun v H2 y => ?_⟩
      obtain ⟨x', hx', s2, R2, r2, kp⟩ := jo.yld i _ eh H v H2 hh s1.w R1 o hl y
      rw [hx] at hx'; cases hx'
      have eD2 := kp D _ eD
      have nD := (R1.hd D (.inr rfl)).2
      have Rs : Rl K mg (fun a => Hd a ∨ a = D) eh H2 es σ := RlA.hid hh (s1.trans s2) R2
      refine ⟨_, wipeE es vs, eh, x, es', Rs.wipe vs, r2, ea, fun σ3 R3 l3 s3 => ⟨?_, _, es', eh, xF, _, R3, .no, f, fun eh4 H4 b s4 R4 f4 => ?_⟩⟩
      · refine (wipe_same (σ := wipe σ vs) l3 fun i hi => s3 i fun z => hi (hv i z)).trans wipe_wipe
      · have e4 := s4.st D _ eD2 nD (fun _ z => nomatch z)
        cases b with
        | false => exact iteF ⟨eh4, acc, va, by omega, s1.trans (s2.trans s4), R4, e4.1, rA.step (s2.trans s4), by rw [hr]; exact f4⟩
        | true =>
          refine iteT ⟨_, es', eh4, xF, _, R3.step s4 R4, .no, f4, fun ehB HB ys ok1 J1 sB RB jo1 mB => ?_⟩
          have eB := sB.st D _ e4.1 e4.2 (fun _ z => nomatch z)
          have sAB := s1.trans (s2.trans (s4.trans sB))
          have R3B := (R3.step s4 R4).step sB RB
          refine ⟨fun j n1 H => ∃ eh acc va, j + n1 = ys.length ∧ StepW (fun a => Hd a ∨ a = D) ehB HB eh H ∧ Step ehA HA eh H ∧ Rl K mg (fun a => Hd a ∨ a = D) eh H es' σ3 ∧ H D = some (.lst va) ∧ RpL K mg (fun a => Hd a ∨ a = D) eh H acc va ∧
            comp2In g1 tt1 te vs1 ok1 (fun acc' eh3 => comp2L g tt mi1 g1 tt1 te vs vs1 ok q r acc' es eh3) (ys.drop j) acc es' eh, ⟨ys.length, ehB, acc, va, by omega, Step.refl.w, sAB, R3B, eB.1, rA.step (s2.trans (s4.trans sB)), mB⟩, ?_⟩
          rintro j n1 H ⟨eh6, acc6, va6, hn6, sB6, sA6, R6, eD6, rA6, f6⟩
          have nD6 := (R6.obj.hd D (.inr rfl)).2
          have hhB : ∀ a, (Hd a ∨ a = D) → (Hd a ∨ a = D) ∨ HB a = none := fun a z => .inl z
          cases hd6 : ys.drop j with
          | nil =>
            rw [hd6] at f6
            have : ys.length ≤ j := by simpa using hd6
            exact .inl ⟨jo1.stop j _ eh6 H hhB sB6 R6.obj f6.1 this, eh6, acc6, va6, by omega, sA6, R6.obj, eD6, rA6, by rw [hr]; exact f6.2⟩
          | cons x6 r6 =>
            rw [hd6] at f6
            obtain ⟨hx6, hr6, hl6⟩ := drop_cons hd6
            obtain ⟨o6, es6, ea6, f6⟩ := f6
            refine .inr ⟨jo1.go j _ eh6 H hhB sB6 R6.obj o6 hl6, fun H => ∃ eh acc va, (j + 1) + (n1 - 1) = ys.length ∧ StepW (fun a => Hd a ∨ a = D) ehB HB eh H ∧ Step ehA HA eh H ∧ Rl K mg (fun a => Hd a ∨ a = D) eh H es' σ3 ∧ H D = some (.lst va) ∧ RpL K mg (fun a => Hd a ∨ a = D) eh H acc va ∧
              comp2In g1 tt1 te vs1 ok1 (fun acc' eh3 => comp2L g tt mi1 g1 tt1 te vs vs1 ok q r acc' es eh3) (ys.drop (j + 1)) acc es' eh, fun H' w => ⟨n1 - 1, by omega, w⟩, fun v6 H7 y6 => ?_⟩
            obtain ⟨x6', hx6', s7, R7, r7, kp7⟩ := jo1.yld j _ eh6 H v6 H7 hhB sB6 R6.obj o6 hl6 y6
            rw [hx6] at hx6'; cases hx6'
            have eD7 := kp7 D _ eD6
            have Rs7 := R6.step s7 R7
            refine ⟨_, wipeE es' vs1, eh6, x6, es6, Rs7.wipe vs1, r7, ea6, fun σ8 R8 l8 s8 => ⟨?_, _, es6, eh6, xF, _, R8, .no, f6, fun eh9 H9 b9 s9 R9 f9 => ?_⟩⟩
            · refine (wipe_same (σ := wipe σ3 vs1) l8 fun i hi => s8 i fun z => hi (hv1 i z)).trans wipe_wipe
            · have e9 := s9.st D _ eD7 nD6 (fun _ z => nomatch z)
              cases b9 with
              | false => exact iteF ⟨eh9, acc6, va6, by omega, sB6.trans (s7.trans s9).w, sA6.trans (s7.trans s9), Rs7.step s9 R9, e9.1, rA6.step (s7.trans s9), by rw [hr6]; exact f9⟩
              | true =>
                refine iteT ⟨_, es6, eh9, xF, _, R8.step s9 R9, .no, f9, fun ehC HC yC vC sC RC rC ⟨hlC, fC⟩ => ?_⟩
                have eC := sC.st D _ e9.1 e9.2 (fun _ z => nomatch z)
                have sall := s7.trans (s9.trans sC)
                have RCw := RC.hw (.inr rfl) eC.1 (va6 ++ [vC])
                refine ⟨va6, eC.1, by rw [← rA6.length]; exact hlC, ehC, acc6 ++ [yC], va6 ++ [vC], by omega, ?_, (sA6.trans sall).over hD, ?_, upd_same, ?_, by rw [hr6]; exact fC⟩
                · exact sB6.trans (sall.w.trans ⟨fun a o h n _ m => ⟨by rw [upd_ne fun z => m (.inr z)]; exact h, n⟩, fun a xs h => by rw [upd_ne fun z => by subst z; rw [eC.1] at h; cases h]; exact h, fun a w u h => by rw [upd_ne fun z => by subst z; rw [eC.1] at h; cases h]; exact h⟩)
                · exact ⟨R6.len, fun i x e => let ⟨w, hw, qw⟩ := R6.loc i x e; ⟨w, hw, (qw.step sall).hw (.inr rfl) eC.1 _⟩, RCw⟩
                · exact RpL.hw (.inr rfl) eC.1 _ ((rA6.step sall).append (.one rC))⟩
end
section
variable {X : Cx} {E : XK} {elt tg iter tg1 iter1 : Expr} {ifs ifs1 : List Expr} {scope : Scope} {own : List (Str × Nat)} {pos : Pos} {mi mi1 : MI} {g g1 : Tg} {tt tt1 : MT} {te : ME}
theorem rts_nil : PTs X [] (UT X.K X.mg E tYesE) := ⟨fun pins s σ H Q I ⟨Hd, es, eh, xc, q, R, xo, m, k⟩ => pts_nil.run pins s σ H Q I (k eh H true .refl R.obj m)⟩
theorem rts_one {c : Expr} {mt : MT} (h : PT X c (UT X.K X.mg E mt)) : PTs X [c] (UT X.K X.mg E mt) := pts_one h
theorem re_comp (hc : X.calm = true) (hN : X.N.Nodup) (hi : PI X tg iter (UI X.K X.mg E mi)) (ok : BlkOk X.N X.env.scope scope own)
    (hg : ∀ (s : Shared) (H : Hp) (C : Addr) (cl : List (Str × Addr)) (fp : List Addr), PG (X.blk s H scope (compEnvC scope cl C X.env) fp) tg (UG X.K X.mg g)) (ht : ∀ (s : Shared) (H : Hp) (C : Addr) (cl : List (Str × Addr)) (fp : List Addr), PTs (X.blk s H scope (compEnvC scope cl C X.env) fp) ifs (UT X.K X.mg E0 tt))
    (he : ∀ (s : Shared) (H : Hp) (C : Addr) (cl : List (Str × Addr)) (fp : List Addr), PE (X.blk s H scope (compEnvC scope cl C X.env) fp) elt (U X.K X.mg E0 te)) (hv : ∀ i ∈ slots g, i ∈ own.map (·.2) := by decide) (hs : ∀ x, foldedSetIterable iter X.env x = pure x := by intro _; rfl) :
    PE X (.ListComp elt [⟨tg, iter, ifs, 0⟩] scope pos) (U X.K X.mg E (mComp mi g tt te (own.map (·.2)))) :=
  PE.imp (pe_lc hc hN hi ok hg ht he hs) (lc_lift hv)
theorem re_compR (hc : X.calm = true) (hN : X.N.Nodup) (hi : PI X tg iter (UI X.K X.mg E mi)) (ok : BlkOk X.N X.env.scope scope own)
    (hg : ∀ (s : Shared) (H : Hp) (C : Addr) (cl : List (Str × Addr)) (fp : List Addr), PG (X.blk s H scope (compEnvC scope cl C X.env) fp) tg (UG X.K X.mg g)) (ht : ∀ (s : Shared) (H : Hp) (C : Addr) (cl : List (Str × Addr)) (fp : List Addr), PTs (X.blk s H scope (compEnvC scope cl C X.env) fp) ifs (UT X.K X.mg E0 tt))
    (he : ∀ (s : Shared) (H : Hp) (C : Addr) (cl : List (Str × Addr)) (fp : List Addr), PE (X.blk s H scope (compEnvC scope cl C X.env) fp) elt (U X.K X.mg E0 te)) (hv : ∀ i ∈ slots g, i ∈ own.map (·.2) := by decide) (hs : ∀ x, foldedSetIterable iter X.env x = pure x := by intro _; rfl) :
    PE X (.ListComp elt [⟨tg, iter, ifs, 0⟩] scope pos) (U X.K X.mg E (mCompR mi g tt te (own.map (·.2)))) :=
  PE.imp (pe_lc hc hN hi ok hg ht he hs) (lc_liftR hv)
theorem re_comp2 {vs1 : List Nat} (hc : X.calm = true) (hN : X.N.Nodup) (hi : PI X tg iter (UI X.K X.mg E mi)) (ok : BlkOk X.N X.env.scope scope own)
    (hg : ∀ (s : Shared) (H : Hp) (C : Addr) (cl : List (Str × Addr)) (fp : List Addr), PG (X.blk s H scope (compEnvC scope cl C X.env) fp) tg (UG X.K X.mg g)) (ht : ∀ (s : Shared) (H : Hp) (C : Addr) (cl : List (Str × Addr)) (fp : List Addr), PTs (X.blk s H scope (compEnvC scope cl C X.env) fp) ifs (UT X.K X.mg E0 tt))
    (hi1 : ∀ (s : Shared) (H : Hp) (C : Addr) (cl : List (Str × Addr)) (fp : List Addr), PI (X.blk s H scope (compEnvC scope cl C X.env) fp) tg1 iter1 (UI X.K X.mg E0 mi1))
    (hg1 : ∀ (s : Shared) (H : Hp) (C : Addr) (cl : List (Str × Addr)) (fp : List Addr), PG (X.blk s H scope (compEnvC scope cl C X.env) fp) tg1 (UG X.K X.mg g1)) (ht1 : ∀ (s : Shared) (H : Hp) (C : Addr) (cl : List (Str × Addr)) (fp : List Addr), PTs (X.blk s H scope (compEnvC scope cl C X.env) fp) ifs1 (UT X.K X.mg E0 tt1))
    (he : ∀ (s : Shared) (H : Hp) (C : Addr) (cl : List (Str × Addr)) (fp : List Addr), PE (X.blk s H scope (compEnvC scope cl C X.env) fp) elt (U X.K X.mg E0 te)) (hvo : ∀ i ∈ vs1, i ∈ own.map (·.2) := by decide) (hv : ∀ i ∈ slots g, i ∈ own.map (·.2) := by decide) (hv1 : ∀ i ∈ slots g1, i ∈ vs1 := by decide)
    (hs : ∀ x, foldedSetIterable iter X.env x = pure x := by intro _; rfl) (hs1 : ∀ env x, foldedSetIterable iter1 env x = pure x := by intro _ _; rfl) :
    PE X (.ListComp elt [⟨tg, iter, ifs, 0⟩, ⟨tg1, iter1, ifs1, 0⟩] scope pos) (U X.K X.mg E (mComp2 mi g tt mi1 g1 tt1 te (own.map (·.2)) vs1)) :=
  PE.imp (pe_lc2 hc hN hi ok hvo hg ht hi1 hg1 ht1 he hs hs1) (lc2_lift hv hv1)
theorem asg_lift {i : Nat} {t : TE} {m : ME} (h : ∀ σ H Q, U X.K X.mg E m σ H Q → t σ H Q) : ∀ D σ H, US X.K X.mg E (sSet i m) D σ H → tAsg t (L2.gName i) D σ H := fun D σ H ⟨Hd, es, eh, xc, d, R, xo, m, k1, k2, k3, k4⟩ =>
  h σ H _ ⟨Hd, es, eh, xc, _, R, xo, m, fun eh1 H1 x v s1 R1 r1 m1 => k1 _ eh1 _ H1 s1 ((R.step s1 R1).set r1) m1⟩
theorem rs_setComp {i : Nat} {y : Str} {py : Pos} {spos : Pos} (hc : X.calm = true) (hN : X.N.Nodup) (hsw : swapsWith (.ListComp elt [⟨tg, iter, ifs, 0⟩] scope pos) (some (.Name y py)) spos.line X.env = pure true) (hi : PI X tg iter (UI X.K X.mg E mi)) (ok : BlkOk X.N X.env.scope scope own)
    (hg : ∀ (s : Shared) (H : Hp) (C : Addr) (cl : List (Str × Addr)) (fp : List Addr), PG (X.blk s H scope (compEnvC scope cl C X.env) fp) tg (UG X.K X.mg g)) (ht : ∀ (s : Shared) (H : Hp) (C : Addr) (cl : List (Str × Addr)) (fp : List Addr), PTs (X.blk s H scope (compEnvC scope cl C X.env) fp) ifs (UT X.K X.mg E0 tt))
    (he : ∀ (s : Shared) (H : Hp) (C : Addr) (cl : List (Str × Addr)) (fp : List Addr), PE (X.blk s H scope (compEnvC scope cl C X.env) fp) elt (U X.K X.mg E0 te)) (hy : X.N[i]? = some y := by rfl) (hyl : X.env.scope.names.lookup y = some .local := by rfl)
    (hv : ∀ i ∈ slots g, i ∈ own.map (·.2) := by decide) (hs : ∀ x, foldedSetIterable iter X.env x = pure x := by intro _; rfl) :
    PS X (.Assign [.Name y py] (.ListComp elt [⟨tg, iter, ifs, 0⟩] scope pos) spos) (US X.K X.mg E (sSet i (mComp mi g tt te (own.map (·.2))))) :=
  PS.imp (ps_setLc hc hN hy hyl hsw hi ok hg ht he hs) (asg_lift (lc_lift hv))
theorem rs_setCompR {i : Nat} {y : Str} {py : Pos} {spos : Pos} (hc : X.calm = true) (hN : X.N.Nodup) (hsw : swapsWith (.ListComp elt [⟨tg, iter, ifs, 0⟩] scope pos) (some (.Name y py)) spos.line X.env = pure true) (hi : PI X tg iter (UI X.K X.mg E mi)) (ok : BlkOk X.N X.env.scope scope own)
    (hg : ∀ (s : Shared) (H : Hp) (C : Addr) (cl : List (Str × Addr)) (fp : List Addr), PG (X.blk s H scope (compEnvC scope cl C X.env) fp) tg (UG X.K X.mg g)) (ht : ∀ (s : Shared) (H : Hp) (C : Addr) (cl : List (Str × Addr)) (fp : List Addr), PTs (X.blk s H scope (compEnvC scope cl C X.env) fp) ifs (UT X.K X.mg E0 tt))
    (he : ∀ (s : Shared) (H : Hp) (C : Addr) (cl : List (Str × Addr)) (fp : List Addr), PE (X.blk s H scope (compEnvC scope cl C X.env) fp) elt (U X.K X.mg E0 te)) (hy : X.N[i]? = some y := by rfl) (hyl : X.env.scope.names.lookup y = some .local := by rfl)
    (hv : ∀ i ∈ slots g, i ∈ own.map (·.2) := by decide) (hs : ∀ x, foldedSetIterable iter X.env x = pure x := by intro _; rfl) :
    PS X (.Assign [.Name y py] (.ListComp elt [⟨tg, iter, ifs, 0⟩] scope pos) spos) (US X.K X.mg E (sSet i (mCompR mi g tt te (own.map (·.2))))) :=
  PS.imp (ps_setLc hc hN hy hyl hsw hi ok hg ht he hs) (asg_lift (lc_liftR hv))
theorem rs_setComp2 {i : Nat} {y : Str} {py : Pos} {spos : Pos} {vs1 : List Nat} (hc : X.calm = true) (hN : X.N.Nodup) (hsw : swapsWith (.ListComp elt [⟨tg, iter, ifs, 0⟩, ⟨tg1, iter1, ifs1, 0⟩] scope pos) (some (.Name y py)) spos.line X.env = pure true) (hi : PI X tg iter (UI X.K X.mg E mi)) (ok : BlkOk X.N X.env.scope scope own)
    (hg : ∀ (s : Shared) (H : Hp) (C : Addr) (cl : List (Str × Addr)) (fp : List Addr), PG (X.blk s H scope (compEnvC scope cl C X.env) fp) tg (UG X.K X.mg g)) (ht : ∀ (s : Shared) (H : Hp) (C : Addr) (cl : List (Str × Addr)) (fp : List Addr), PTs (X.blk s H scope (compEnvC scope cl C X.env) fp) ifs (UT X.K X.mg E0 tt))
    (hi1 : ∀ (s : Shared) (H : Hp) (C : Addr) (cl : List (Str × Addr)) (fp : List Addr), PI (X.blk s H scope (compEnvC scope cl C X.env) fp) tg1 iter1 (UI X.K X.mg E0 mi1))
    (hg1 : ∀ (s : Shared) (H : Hp) (C : Addr) (cl : List (Str × Addr)) (fp : List Addr), PG (X.blk s H scope (compEnvC scope cl C X.env) fp) tg1 (UG X.K X.mg g1)) (ht1 : ∀ (s : Shared) (H : Hp) (C : Addr) (cl : List (Str × Addr)) (fp : List Addr), PTs (X.blk s H scope (compEnvC scope cl C X.env) fp) ifs1 (UT X.K X.mg E0 tt1))
    (he : ∀ (s : Shared) (H : Hp) (C : Addr) (cl : List (Str × Addr)) (fp : List Addr), PE (X.blk s H scope (compEnvC scope cl C X.env) fp) elt (U X.K X.mg E0 te)) (hy : X.N[i]? = some y := by rfl) (hyl : X.env.scope.names.lookup y = some .local := by rfl)
    (hvo : ∀ i ∈ vs1, i ∈ own.map (·.2) := by decide) (hv : ∀ i ∈ slots g, i ∈ own.map (·.2) := by decide) (hv1 : ∀ i ∈ slots g1, i ∈ vs1 := by decide)
    (hs : ∀ x, foldedSetIterable iter X.env x = pure x := by intro _; rfl) (hs1 : ∀ env x, foldedSetIterable iter1 env x = pure x := by intro _ _; rfl) :
    PS X (.Assign [.Name y py] (.ListComp elt [⟨tg, iter, ifs, 0⟩, ⟨tg1, iter1, ifs1, 0⟩] scope pos) spos) (US X.K X.mg E (sSet i (mComp2 mi g tt mi1 g1 tt1 te (own.map (·.2)) vs1))) :=
  PS.imp (ps_setLc2 hc hN hy hyl hsw hi ok hvo hg ht hi1 hg1 ht1 he hs hs1) (asg_lift (lc2_lift hv hv1))
end

/-! ### defs and their calls -/
abbrev FN := XC → List EV → Eh → KE → Prop
def fnOf (N : Nat) (ms : MS) : FN := fun xc xs eh q => ms xc { nx := fun _ eh => q .non eh, rt := q } (xs.map some ++ List.replicate (N - xs.length) none) eh
def spOf (K : PySem.W.Frag) (mg : Str → Option Value) (n : Nat) (F : FN) : Sp := fun vs H Q E => ∃ Hd eh xs xc q, vs.length = n ∧ Rh K mg Hd eh H ∧ RpL K mg Hd eh H xs vs ∧ XOk K mg E Hd eh H xc ∧ F xc xs eh q ∧
  ∀ eh' H' x v, Step eh H eh' H' → Rh K mg Hd eh' H' → Rp K mg Hd eh' H' x v → q x eh' → Q v H'
def mCall (F : FN) (n : Nat) (dx : List EV) (t : MA) : ME := fun xc es eh q => t xc es eh fun xs eh1 => (xs ++ dx).length = n ∧ F xc (xs ++ dx) eh1 q
section
variable {K : PySem.W.Frag} {mg : Str → Option Value} {E : XK}
theorem Rl.start {Hd eh H} {N : List Str} {xs : List EV} {vs : List V} (R : Rh K mg Hd eh H) (r : RpL K mg Hd eh H xs vs) : Rl K mg Hd eh H (xs.map some ++ List.replicate (N.length - xs.length) Option.none) (start N vs) := by
  refine ⟨by simp [L2.start, r.length], fun i x e => ?_, R⟩
  rw [List.getElem?_append] at e
  split at e
  · rename_i h
    rw [List.getElem?_map, Option.map_eq_some_iff] at e
    obtain ⟨y, hy, e⟩ := e
    cases e
    obtain ⟨v, hv, q⟩ := r.get hy
    refine ⟨v, ?_, q⟩
    unfold L2.start
    rw [List.getElem?_append_left (by rw [List.length_map, ← r.length]; simpa using h), List.getElem?_map, hv]
    rfl
  · rw [List.getElem?_replicate] at e
    split at e <;> cases e
theorem sp_start {N : List Str} {n : Nat} {ms : MS} {vs : List V} {H : Hp} {Q : VK} (h : spOf K mg n (fnOf N.length ms) vs H Q E) : US K mg E ms { nx := fun _ H' => Q .non H', rt := Q } (L2.start N vs) H := by
  obtain ⟨Hd, eh, xs, xc, q, hl, R, r, xo, m, k⟩ := h
  exact ⟨Hd, _, eh, xc, _, Rl.start R r, xo, m, fun es' eh' σ' H' s' R' m' => k eh' H' .non .non s' R'.obj rfl m', k, fun _ _ _ _ _ _ h => h.elim, fun _ _ _ _ _ _ h => h.elim⟩
end
section
variable {P : Program} {w : World} {K : PySem.W.Frag} {mg : Str → Option Value} {base : Heap} {x qual : Str} {params : Arguments} {body : List Stmt} {scope : Scope} {dvs : List V} {kws : List (Str × V)} {f : Addr} {fd : FuncData} {N ps : List Str} {k : Nat} {ms : MS}
/-- a def that lets no exception out -/
theorem fn_ok0 (F : FunD K x qual params body scope dvs kws f fd) (S : FnScope N ps scope)
    (h : ∀ (cdv : Value) (A : Around) (outer : List Env) (s : Shared) (H : Hp) (E : XK), RoomG k (A.deeper (envOfC qual scope s.heap.objs.size f cdv)) → PSs (cxOf CX0 P w K mg base N qual scope f cdv A outer s H E).nox body (US K mg E ms)) :
    FnG P w K mg base CX0 (k + 1) f fd ps (spOf K mg ps.length (fnOf N.length ms)) :=
  .of F S (fun vs H Q E h => h.choose_spec.choose_spec.choose_spec.choose_spec.choose_spec.1) fun cdv A outer s H vs Q E _ hr hsp => ⟨_, (h cdv A outer s H E hr).nox, sp_start hsp⟩
/-- a def that may raise -/
theorem fn_okX (F : FunD K x qual params body scope dvs kws f fd) (S : FnScope N ps scope)
    (h : ∀ (cdv : Value) (A : Around) (outer : List Env) (s : Shared) (H : Hp) (E : XK), RoomG k (A.deeper (envOfC qual scope s.heap.objs.size f cdv)) → PSs (cxOf (L2N.CX P w) P w K mg base N qual scope f cdv A outer s H E) body (US K mg E ms)) :
    FnG P w K mg base (L2N.CX P w) (k + 1) f fd ps (spOf K mg ps.length (fnOf N.length ms)) :=
  .of F S (fun vs H Q E h => h.choose_spec.choose_spec.choose_spec.choose_spec.choose_spec.1) fun cdv A outer s H vs Q E _ hr hsp => ⟨_, h cdv A outer s H E hr, sp_start hsp⟩
end
theorem pass_any {X : Cx} {E : XK} : Passes CX0 X E := fun _ _ _ _ _ _ _ h => h.elim
section
variable {X : Cx} {CX : CXT} {k np : Nat} {f C : Addr} {fd : FuncData} {ps : List Str} {F : FN} {dvs : List V} {ds : List Value} {dx : List EV} {E : XK} {x m : Str} {p pos apos : Pos} {e o : Expr} {es : List Expr} {ma : ME} {t : MA}
theorem call_lift (hdx : ∀ Hd eh H, RpL X.K X.mg Hd eh H dx dvs) : ∀ σ H Q, U X.K X.mg E (mCall F np dx t) σ H Q → tCall (spOf X.K X.mg np F) dvs E (UA X.K X.mg E t) σ H Q := fun σ H Q ⟨Hd, es, eh, xc, q, R, xo, m, kk⟩ =>
  ⟨Hd, es, eh, xc, _, R, xo, m, fun eh1 H1 xs vs s1 R1 r1 ⟨hl, m1⟩ => ⟨Hd, eh1, xs ++ dx, xc, q, by rw [← hl]; exact (r1.append (hdx Hd eh1 H1)).length.symm, R1, r1.append (hdx _ _ _), xo.step s1, m1, fun eh2 H2 x v s2 => kk eh2 H2 x v (s1.trans s2)⟩⟩
theorem re_call (G : FnG X.prog X.w X.K X.mg X.base CX k f fd ps (spOf X.K X.mg np F)) (hr : RoomG k X.A) (hg : Gl X x) (hm : X.mg x = some (.ref f)) (hk : PySem.W.keepIn X.K (.ref f) = true) (hb : Binds X.K fd ps ds) (hd : Vals dvs ds) (hdx : ∀ Hd eh H, RpL X.K X.mg Hd eh H dx dvs) (hx : Passes CX X E)
    (ha : PA X (e :: es) (UA X.K X.mg E t)) (hdb : (x == ("__debug__" : Str)) = false := by decide) (he : starEach (e :: es) X.env = (false, eval e X.env) :: starEach es X.env := by rfl) (hpl : (backTo pos (starEach es X.env)).any (·.1) = false := by rfl) :
    PE X (.Call (.Name x p) (e :: es) [] pos) (U X.K X.mg E (mCall F np dx t)) :=
  PE.imp (G.call_ hr hg hm hk hb hd (Passes.at hx) ha hdb he hpl) (call_lift hdx)
theorem re_call0 (G : FnG X.prog X.w X.K X.mg X.base CX k f fd ps (spOf X.K X.mg np F)) (hr : RoomG k X.A) (hg : Gl X x) (hm : X.mg x = some (.ref f)) (hk : PySem.W.keepIn X.K (.ref f) = true) (hb : Binds X.K fd ps ds) (hd : Vals dvs ds) (hdx : ∀ Hd eh H, RpL X.K X.mg Hd eh H dx dvs) (hx : Passes CX X E)
    (hdb : (x == ("__debug__" : Str)) = false := by decide) : PE X (.Call (.Name x p) [] [] pos) (U X.K X.mg E (mCall F np dx aNil)) :=
  PE.imp (G.call0_ hr hg hm hk hb hd (Passes.at hx) hdb) fun σ H Q h => by
    obtain ⟨Hd, es, eh, xc, q, R, xo, ⟨hl, m⟩, kk⟩ := h
    exact ⟨Hd, eh, dx, xc, q, by rw [← hl]; exact (hdx Hd eh H).length.symm, R.obj, hdx _ _ _, xo, m, kk⟩
/-- o.m(..): o a frozen object or a reference -/
def insE (eh : Eh) : EV → Option (Str × List (Str × EV))
  | .obj C fs => some (C, fs)
  | .ref a => match eh a with | some (.ins C fs) => some (C, fs) | _ => none
  | _ => none
theorem ins_of {K mg Hd eh H} (R : Rh K mg Hd eh H) {x : EV} {v : V} {C : Str} {fs : List (Str × EV)} (r : Rp K mg Hd eh H x v) (h : insE eh x = some (C, fs)) : ∃ a c dx us, v = .ref a ∧ mg C = some (.ref c) ∧ H a = some (.ins c dx us) ∧ RpF K mg Hd eh H fs us := by
  cases x with
  | obj C' fs' => cases h; obtain ⟨a, c, dx, us, e, m, h, _, t⟩ := r; exact ⟨a, c, dx, us, e, m, h, t⟩
  | ref a =>
    cases r
    simp only [insE] at h
    cases e : eh a with
    | none => rw [e] at h; cases h
    | some o =>
      rw [e] at h
      cases o with
      | ins C' fs' => cases h; obtain ⟨c, dx, us, m, h, t⟩ := R.ob a _ e; exact ⟨a, c, dx, us, rfl, m, h, t⟩
      | _ => cases h
  | _ => cases h
def mMeth (cn : Str) (m : Str) (F : FN) (n : Nat) (dx : List EV) (ma : ME) (t : MA) : ME := fun xc es eh q => ma xc es eh fun x eh1 => ∃ fs, insE eh1 x = some (cn, fs) ∧ fs.lookup m = none ∧
  t xc es eh1 fun xs eh2 => (x :: (xs ++ dx)).length = n ∧ F xc (x :: (xs ++ dx)) eh2 q
theorem meth_lift {cn : Str} (hC : X.mg cn = some (.ref C)) (hdx : ∀ Hd eh H, RpL X.K X.mg Hd eh H dx dvs) : ∀ σ H Q, U X.K X.mg E (mMeth cn m F np dx ma t) σ H Q → tMeth C m (spOf X.K X.mg np F) dvs E (U X.K X.mg E ma) (UA X.K X.mg E t) σ H Q := fun σ H Q ⟨Hd, es, eh, xc, q, R, xo, mm, kk⟩ =>
  ⟨Hd, es, eh, xc, _, R, xo, mm, fun eh1 H1 x v s1 R1 r1 ⟨fs, hi, hl, m1⟩ => by
    obtain ⟨a, c, dx', us, rfl, hc, h, t⟩ := ins_of R1 r1 hi
    rw [hC] at hc; cases hc
    exact ⟨a, dx', us, rfl, h, t.lookup_none hl, Hd, es, eh1, xc, _, R.step s1 R1, xo.step s1, m1, fun eh2 H2 xs vs s2 R2 r2 ⟨hn, m2⟩ =>
      ⟨Hd, eh2, x :: (xs ++ dx), xc, q, by rw [← hn]; exact (RpL.cons (r1.step s2) (r2.append (hdx Hd eh2 H2))).length.symm, R2, .cons (r1.step s2) (r2.append (hdx _ _ _)), (xo.step s1).step s2, m2, fun eh3 H3 z w s3 => kk eh3 H3 z w (s1.trans (s2.trans s3))⟩⟩⟩
theorem re_meth {cn : Str} {pl : Sem Bool} (hC : X.mg cn = some (.ref C)) (he : PE X o (U X.K X.mg E ma)) (c : Cls X.K C) (hm : Meth X.K C m f) (G : FnG X.prog X.w X.K X.mg X.base CX k f fd ps (spOf X.K X.mg np F)) (hr : RoomG k X.A) (hb : Binds X.K fd ps ds) (hd : Vals dvs ds) (hdx : ∀ Hd eh H, RpL X.K X.mg Hd eh H dx dvs) (hx : Passes CX X E) (ha : PA X (e :: es) (UA X.K X.mg E t))
    (hst : starEach (e :: es) X.env = (false, eval e X.env) :: starEach es X.env := by rfl) (hpl : (backTo pos (starEach es X.env)).any (·.1) = false := by rfl)
    (ht : eval (.Call (.Attribute o m apos) (e :: es) [] pos) X.env = (do
      let ov ← eval o X.env
      standAt apos.atName
      let (f, first) ← holding [ov] (getMethod ov m pl)
      callWith pos f first (backTo pos (starEach (e :: es) X.env)) (backToKw pos (keywordEach [] X.env))) := by rfl) :
    PE X (.Call (.Attribute o m apos) (e :: es) [] pos) (U X.K X.mg E (mMeth cn m F np dx ma t)) :=
  PE.imp (G.meth_ he c hm hr hb hd (Passes.at hx) ha hst hpl ⟨pl, ht⟩) (meth_lift hC hdx)
theorem re_meth0 {cn : Str} {pl : Sem Bool} (hC : X.mg cn = some (.ref C)) (he : PE X o (U X.K X.mg E ma)) (c : Cls X.K C) (hm : Meth X.K C m f) (G : FnG X.prog X.w X.K X.mg X.base CX k f fd ps (spOf X.K X.mg np F)) (hr : RoomG k X.A) (hb : Binds X.K fd ps ds) (hd : Vals dvs ds) (hdx : ∀ Hd eh H, RpL X.K X.mg Hd eh H dx dvs) (hx : Passes CX X E)
    (ht : eval (.Call (.Attribute o m apos) [] [] pos) X.env = (do
      let ov ← eval o X.env
      standAt apos.atName
      let (f, first) ← holding [ov] (getMethod ov m pl)
      callWith pos f first (backTo pos (starEach [] X.env)) (backToKw pos (keywordEach [] X.env))) := by rfl) :
    PE X (.Call (.Attribute o m apos) [] [] pos) (U X.K X.mg E (mMeth cn m F np dx ma aNil)) :=
  PE.imp (G.meth0_ he c hm hr hb hd (Passes.at hx) ⟨pl, ht⟩) fun σ H Q h => by
    obtain ⟨Hd, es, eh, xc, q, R, xo, mm, kk⟩ := h
    refine ⟨Hd, es, eh, xc, _, R, xo, mm, fun eh1 H1 x v s1 R1 r1 ⟨fs, hi, hl, m1⟩ => ?_⟩
    obtain ⟨a, c, dx', us, rfl, hc, h, t⟩ := ins_of R1 r1 hi
    rw [hC] at hc; cases hc
    exact ⟨a, dx', us, rfl, h, t.lookup_none hl, Hd, eh1, x :: dx, xc, q, by rw [← m1.1]; exact (RpL.cons r1 (hdx Hd eh1 H1)).length.symm, R1, .cons r1 (hdx _ _ _), xo.step s1, m1.2, fun eh3 H3 z w s3 => kk eh3 H3 z w (s1.trans s3)⟩
end
end VM

/-! VM6: built-ins by values: len, abs, min, max, sum, all, any, int, tuple, list, sorted; methods of lists; slices. -/
namespace VM
open PySem PySem.Spec PyProof.Rows L2

/-! ### calls of built-ins -/
def mCB (o : EOL) (t : MA) : ME := fun xc es eh q => t xc es eh fun xs eh1 => o xs eh1 q
section
variable {X : Cx} {E : XK} {x : Str} {p pos : Pos} {e : Expr} {es : List Expr} {t : MA} {id T : String} {o : EOL}
theorem cb_lift : ∀ σ H Q, U X.K X.mg E (mCB o t) σ H Q → tCB (UL X.K X.mg o) (UA X.K X.mg E t) σ H Q := fun σ H Q ⟨Hd, es, eh, xc, q, R, xo, m, k⟩ =>
  ⟨Hd, es, eh, xc, _, R, xo, m, fun eh1 H1 xs vs s1 R1 r1 m1 => ⟨Hd, eh1, xs, q, R1, r1, m1, fun eh2 H2 z w s2 => k eh2 H2 z w (s1.trans s2)⟩⟩
theorem re_cb (hc : CallR X (.builtin id) (UL X.K X.mg o)) (hg : Gl X x) (hm : X.mg x = none) (hv : bootBuiltins x = some (.builtin id)) (ha : PA X (e :: es) (UA X.K X.mg E t)) (hn : x ≠ "__name__" := by decide) (hdb : (x == ("__debug__" : Str)) = false := by decide)
    (he : starEach (e :: es) X.env = (false, eval e X.env) :: starEach es X.env := by rfl) (hpl : (backTo pos (starEach es X.env)).any (·.1) = false := by rfl) : PE X (.Call (.Name x p) (e :: es) [] pos) (U X.K X.mg E (mCB o t)) :=
  PE.imp (pe_callB hc hg hm hv ha hn hdb he hpl) cb_lift
theorem re_cty (hc : CallR X (.type T) (UL X.K X.mg o)) (hg : Gl X x) (hm : X.mg x = none) (hv : bootBuiltins x = some (.type T)) (ha : PA X (e :: es) (UA X.K X.mg E t)) (hn : x ≠ "__name__" := by decide) (hdb : (x == ("__debug__" : Str)) = false := by decide)
    (he : starEach (e :: es) X.env = (false, eval e X.env) :: starEach es X.env := by rfl) (hpl : (backTo pos (starEach es X.env)).any (·.1) = false := by rfl) : PE X (.Call (.Name x p) (e :: es) [] pos) (U X.K X.mg E (mCB o t)) :=
  PE.imp (pe_callTy hc hg hm hv ha hn hdb he hpl) cb_lift
end
theorem one_of {K mg Hd eh H} {x : EV} {vs : List V} (r : RpL K mg Hd eh H [x] vs) : ∃ v, vs = [v] ∧ Rp K mg Hd eh H x v := by
  obtain ⟨v, r', rfl, h, t⟩ := r; cases t; exact ⟨v, rfl, h⟩
theorem two_of {K mg Hd eh H} {x y : EV} {vs : List V} (r : RpL K mg Hd eh H [x, y] vs) : ∃ v u, vs = [v, u] ∧ Rp K mg Hd eh H x v ∧ Rp K mg Hd eh H y u := by
  obtain ⟨v, r', rfl, h, t⟩ := r; obtain ⟨u, rfl, h'⟩ := one_of t; exact ⟨v, u, rfl, h, h'⟩
def bLen : EOL := fun xs eh q => match xs with
  | [.str z] => z.length ≤ sizeLine ∧ q (.int z.length) eh
  | [x] => (∃ ys, seqE eh x = some ys ∧ q (.int ys.length) eh) ∨ ∃ kvs, dctE eh x = some kvs ∧ q (.int kvs.length) eh
  | _ => False
section
variable {X : Cx}
theorem cb_len : CallR X (.builtin "len") (UL X.K X.mg bLen) := by
  intro pins s σ H vs us Q I r ⟨Hd, eh, xs, q, R, rx, m, k⟩
  unfold bLen at m
  split at m
  · obtain ⟨v, rfl, h⟩ := one_of rx
    cases h
    exact call_len pins s σ H _ us Q I r ⟨.str _, _, rfl, ⟨m.1, rfl⟩, k eh H (.int _) (.int _) .refl R rfl m.2⟩
  · obtain ⟨v, rfl, h⟩ := one_of rx
    rcases m with ⟨ys, hy, m⟩ | ⟨kvs, hk, m⟩
    · obtain ⟨a, ws, rfl, hs, rr⟩ := seq_of R h hy
      rw [rr.length] at m
      exact call_len_seq pins s σ H _ us Q I r ⟨a, ws, rfl, hs, k eh H (.int _) (.int _) .refl R rfl m⟩
    · obtain ⟨a, ws, rfl, hs, rr⟩ := dct_of R h hk
      rw [rr.length] at m
      rw [Vals.ref1 r]
      exact d_len I hs fun t s' I' => ⟨.int _, H, I', ⟨_, rfl⟩, k eh H (.int _) (.int _) .refl R rfl m⟩
  · exact m.elim
def bAbs : EOL := fun xs eh q => match xs with
  | [.int i] => q (.int (if i < 0 then -i else i)) eh
  | _ => False
theorem cb_abs : CallR X (.builtin "abs") (UL X.K X.mg bAbs) := CallR.imp call_abs fun vs H Q ⟨Hd, eh, xs, q, R, rx, m, k⟩ => by
  unfold bAbs at m
  split at m
  · obtain ⟨v, rfl, h⟩ := one_of rx
    cases h
    exact ⟨_, rfl, k eh H (.int _) (.int _) .refl R rfl m⟩
  · exact m.elim
/-- the ints of a sequence -/
def intsE : List EV → Option (List Int)
  | [] => some []
  | .int i :: r => (intsE r).map (i :: ·)
  | _ :: _ => none
theorem intsE_of : ∀ {xs : List EV} {ns : List Int}, intsE xs = some ns → xs = ns.map .int
  | [], _, h => by cases h; rfl
  | x :: r, ns, h => by
    cases x with
    | int i =>
      simp only [intsE, Option.map_eq_some_iff] at h
      obtain ⟨ms, h, rfl⟩ := h
      rw [intsE_of h]; rfl
    | _ => cases h
theorem intsE_map (ns : List Int) : intsE (ns.map .int) = some ns := by
  induction ns with
  | nil => rfl
  | cons n ns ih => simp [intsE, ih]
def leastI : Int → List Int → Int
  | a, [] => a
  | a, b :: r => leastI (if b < a then b else a) r
def mostI : Int → List Int → Int
  | a, [] => a
  | a, b :: r => mostI (if a < b then b else a) r
theorem leastI_le : ∀ (r : List Int) (a : Int), leastI a r ≤ a ∧ ∀ b ∈ r, leastI a r ≤ b
  | [], a => ⟨Int.le_refl _, by simp⟩
  | b :: r, a => by
    obtain ⟨h1, h2⟩ := leastI_le r (if b < a then b else a)
    simp only [leastI]
    refine ⟨?_, fun c hc => ?_⟩
    · split at h1 <;> split <;> omega
    · rcases List.mem_cons.mp hc with rfl | hc
      · split at h1 <;> split <;> omega
      · exact h2 c hc
theorem leastI_mem : ∀ (r : List Int) (a : Int), leastI a r ∈ a :: r
  | [], a => by simp [leastI]
  | b :: r, a => by
    simp only [leastI]
    have := leastI_mem r (if b < a then b else a)
    split at this <;> split <;> first | omega | (simp at this ⊢; rcases this with h | h <;> simp [h])
theorem leastI_eq {a : Int} {r : List Int} {m : Int} (h1 : m ∈ a :: r) (h2 : ∀ b ∈ a :: r, m ≤ b) : m = leastI a r := by
  have := leastI_le r a
  have h3 := h2 _ (leastI_mem r a)
  rcases List.mem_cons.mp h1 with rfl | h
  · omega
  · have := this.2 _ h; omega
theorem mostI_le : ∀ (r : List Int) (a : Int), a ≤ mostI a r ∧ ∀ b ∈ r, b ≤ mostI a r
  | [], a => ⟨Int.le_refl _, by simp⟩
  | b :: r, a => by
    obtain ⟨h1, h2⟩ := mostI_le r (if a < b then b else a)
    simp only [mostI]
    refine ⟨?_, fun c hc => ?_⟩
    · split at h1 <;> split <;> omega
    · rcases List.mem_cons.mp hc with rfl | hc
      · split at h1 <;> split <;> omega
      · exact h2 c hc
theorem mostI_mem : ∀ (r : List Int) (a : Int), mostI a r ∈ a :: r
  | [], a => by simp [mostI]
  | b :: r, a => by
    simp only [mostI]
    have := mostI_mem r (if a < b then b else a)
    split at this <;> split <;> first | omega | (simp at this ⊢; rcases this with h | h <;> simp [h])
theorem mostI_eq {a : Int} {r : List Int} {m : Int} (h1 : m ∈ a :: r) (h2 : ∀ b ∈ a :: r, b ≤ m) : m = mostI a r := by
  have := mostI_le r a
  have h3 := h2 _ (mostI_mem r a)
  rcases List.mem_cons.mp h1 with rfl | h
  · omega
  · have := this.2 _ h; omega
def bMin : EOL := fun xs eh q => match xs with
  | [.int i, .int j] => q (.int (if j < i then j else i)) eh
  | [x] => ∃ ys n r, seqE eh x = some ys ∧ intsE ys = some (n :: r) ∧ q (.int (leastI n r)) eh
  | _ => False
def bMax : EOL := fun xs eh q => match xs with
  | [.int i, .int j] => q (.int (if i < j then j else i)) eh
  | [x] => ∃ ys n r, seqE eh x = some ys ∧ intsE ys = some (n :: r) ∧ q (.int (mostI n r)) eh
  | _ => False
theorem minOf_mem {a : Int} {r : List Int} : W.minOf a r ∈ a :: r ∧ ∀ b ∈ a :: r, W.minOf a r ≤ b := by
  have key : ∀ (r : List Int) (a : Int), W.minOf a r = leastI a r := by
    intro r
    induction r with
    | nil => intro a; rfl
    | cons b r ih =>
      intro a
      show W.minOf (if W.DatumOrd.lt b a = true then b else a) r = _
      rw [ih]
      simp only [leastI]
      congr 1
      show (if (decide (b < a)) = true then b else a) = _
      simp
  rw [key]
  exact ⟨leastI_mem r a, fun b hb => by
    rcases List.mem_cons.mp hb with rfl | hb
    · exact (leastI_le r _).1
    · exact (leastI_le r a).2 b hb⟩
theorem maxOf_mem {a : Int} {r : List Int} : W.maxOf a r ∈ a :: r ∧ ∀ b ∈ a :: r, b ≤ W.maxOf a r := by
  have key : ∀ (r : List Int) (a : Int), W.maxOf a r = mostI a r := by
    intro r
    induction r with
    | nil => intro a; rfl
    | cons b r ih =>
      intro a
      show W.maxOf (if W.DatumOrd.lt a b = true then b else a) r = _
      rw [ih]
      simp only [mostI]
      congr 1
      show (if (decide (a < b)) = true then b else a) = _
      simp
  rw [key]
  exact ⟨mostI_mem r a, fun b hb => by
    rcases List.mem_cons.mp hb with rfl | hb
    · exact (mostI_le r _).1
    · exact (mostI_le r a).2 b hb⟩
theorem cb_min {k : Nat} (hc : X.calm = true) (hr : RoomG k X.A) : CallR X (.builtin "min") (UL X.K X.mg bMin) := by
  have hu := hr.units
  intro pins s σ H vs us Q I r ⟨Hd, eh, xs, q, R, rx, m, k⟩
  unfold bMin at m
  split at m
  · obtain ⟨v, u, rfl, h, h'⟩ := two_of rx
    cases h; cases h'
    exact call_min2 hc pins s σ H _ us Q I r ⟨_, _, rfl, k eh H (.int _) (.int _) .refl R rfl m⟩
  · obtain ⟨v, rfl, h⟩ := one_of rx
    obtain ⟨ys, n, ns, hy, hn, m⟩ := m
    obtain ⟨a, ws, rfl, hs, rr⟩ := seq_of R h hy
    rw [intsE_of hn] at rr
    have ew := rr.ints
    subst ew
    rcases hs with hs | hs
    · exact cr_min hc pins s σ H _ us Q I r ⟨a, n :: ns, rfl, hs, by simp, fun z h1 h2 => by rw [leastI_eq h1 h2]; exact k eh H (.int _) (.int _) .refl R rfl m⟩
    · obtain ⟨its, rv, ht, _⟩ := I.tuple hs
      rw [Vals.ref1 r]
      have ri := rv.ints
      refine W.min_tuple_datum (α := Int) (x := n) (xs := ns) (I.ok.hd hc) (show s.heap.IsTuple a its.toArray from ht) (by simpa using W.HoldAll.of_ints ri) (by show X.A.units + 1 + 0 < cLine; omega) fun i v h' tk hv hh hk => ?_
      obtain ⟨t, rfl⟩ := W.int_of_holds hh
      refine ⟨.int (W.minOf n ns), H, I.kept hk, ⟨_, rfl⟩, ?_⟩
      rw [leastI_eq minOf_mem.1 minOf_mem.2]
      exact k eh H (.int _) (.int _) .refl R rfl m
  · exact m.elim
theorem cb_max {k : Nat} (hc : X.calm = true) (hr : RoomG k X.A) : CallR X (.builtin "max") (UL X.K X.mg bMax) := by
  have hu := hr.units
  intro pins s σ H vs us Q I r ⟨Hd, eh, xs, q, R, rx, m, k⟩
  unfold bMax at m
  split at m
  · obtain ⟨v, u, rfl, h, h'⟩ := two_of rx
    cases h; cases h'
    exact call_max2 hc pins s σ H _ us Q I r ⟨_, _, rfl, k eh H (.int _) (.int _) .refl R rfl m⟩
  · obtain ⟨v, rfl, h⟩ := one_of rx
    obtain ⟨ys, n, ns, hy, hn, m⟩ := m
    obtain ⟨a, ws, rfl, hs, rr⟩ := seq_of R h hy
    rw [intsE_of hn] at rr
    have ew := rr.ints
    subst ew
    rcases hs with hs | hs
    · exact cr_max hc pins s σ H _ us Q I r ⟨a, n :: ns, rfl, hs, by simp, fun z h1 h2 => by rw [mostI_eq h1 h2]; exact k eh H (.int _) (.int _) .refl R rfl m⟩
    · obtain ⟨its, rv, ht, _⟩ := I.tuple hs
      rw [Vals.ref1 r]
      have ri := rv.ints
      refine W.max_tuple_datum (α := Int) (x := n) (xs := ns) (I.ok.hd hc) (show s.heap.IsTuple a its.toArray from ht) (by simpa using W.HoldAll.of_ints ri) (by show X.A.units + 1 + 0 < cLine; omega) fun i v h' tk hv hh hk => ?_
      obtain ⟨t, rfl⟩ := W.int_of_holds hh
      refine ⟨.int (W.maxOf n ns), H, I.kept hk, ⟨_, rfl⟩, ?_⟩
      rw [mostI_eq maxOf_mem.1 maxOf_mem.2]
      exact k eh H (.int _) (.int _) .refl R rfl m
  · exact m.elim
def bSum : EOL := fun xs eh q => match xs with
  | [x] => ∃ ys ns, lstE eh x = some ys ∧ intsE ys = some ns ∧ q (.int ns.sum) eh
  | _ => False
theorem cb_sum (hc : X.calm = true) : CallR X (.builtin "sum") (UL X.K X.mg bSum) := CallR.imp (cr_sum hc) fun vs H Q ⟨Hd, eh, xs, q, R, rx, m, k⟩ => by
  unfold bSum at m
  split at m
  · obtain ⟨v, rfl, h⟩ := one_of rx
    obtain ⟨ys, ns, hy, hn, m⟩ := m
    obtain ⟨a, ws, rfl, hs, rr⟩ := lst_of R h hy
    rw [intsE_of hn] at rr
    have ew := rr.ints
    subst ew
    exact ⟨a, ns, rfl, .inl (.inl hs), k eh H (.int _) (.int _) .refl R rfl m⟩
  · exact m.elim
def boolsE : List EV → Option (List Bool)
  | [] => some []
  | .bl i :: r => (boolsE r).map (i :: ·)
  | _ :: _ => none
theorem boolsE_of : ∀ {xs : List EV} {ns : List Bool}, boolsE xs = some ns → xs = ns.map .bl
  | [], _, h => by cases h; rfl
  | x :: r, ns, h => by
    cases x with
    | bl i =>
      simp only [boolsE, Option.map_eq_some_iff] at h
      obtain ⟨ms, h, rfl⟩ := h
      rw [boolsE_of h]; rfl
    | _ => cases h
theorem boolsE_map (ns : List Bool) : boolsE (ns.map .bl) = some ns := by
  induction ns with
  | nil => rfl
  | cons n ns ih => simp [boolsE, ih]
def bAll : EOL := fun xs eh q => match xs with
  | [x] => ∃ ys ns, lstE eh x = some ys ∧ boolsE ys = some ns ∧ q (.bl (ns.all id)) eh
  | _ => False
def bAny : EOL := fun xs eh q => match xs with
  | [x] => ∃ ys ns, lstE eh x = some ys ∧ boolsE ys = some ns ∧ q (.bl (ns.any id)) eh
  | _ => False
theorem cb_all (hc : X.calm = true) : CallR X (.builtin "all") (UL X.K X.mg bAll) := CallR.imp (cr_all hc) fun vs H Q ⟨Hd, eh, xs, q, R, rx, m, k⟩ => by
  unfold bAll at m
  split at m
  · obtain ⟨v, rfl, h⟩ := one_of rx
    obtain ⟨ys, ns, hy, hn, m⟩ := m
    obtain ⟨a, ws, rfl, hs, rr⟩ := lst_of R h hy
    rw [boolsE_of hn] at rr
    have ew := rr.bools
    subst ew
    exact ⟨a, ns, rfl, .inl (.inl hs), k eh H (.bl _) (.bl _) .refl R rfl m⟩
  · exact m.elim
theorem cb_any (hc : X.calm = true) : CallR X (.builtin "any") (UL X.K X.mg bAny) := CallR.imp (cr_any hc) fun vs H Q ⟨Hd, eh, xs, q, R, rx, m, k⟩ => by
  unfold bAny at m
  split at m
  · obtain ⟨v, rfl, h⟩ := one_of rx
    obtain ⟨ys, ns, hy, hn, m⟩ := m
    obtain ⟨a, ws, rfl, hs, rr⟩ := lst_of R h hy
    rw [boolsE_of hn] at rr
    have ew := rr.bools
    subst ew
    exact ⟨a, ns, rfl, .inl (.inl hs), k eh H (.bl _) (.bl _) .refl R rfl m⟩
  · exact m.elim
def bInt : EOL := fun xs eh q => match xs with
  | [.int i] => q (.int i) eh
  | [.bl b] => q (.int (if b then 1 else 0)) eh
  | _ => False
theorem cb_int : CallR X (.type "int") (UL X.K X.mg bInt) := CallR.imp call_int1 fun vs H Q ⟨Hd, eh, xs, q, R, rx, m, k⟩ => by
  unfold bInt at m
  split at m
  · obtain ⟨v, rfl, h⟩ := one_of rx
    cases h
    exact .inl ⟨_, rfl, k eh H (.int _) (.int _) .refl R rfl m⟩
  · obtain ⟨v, rfl, h⟩ := one_of rx
    cases h
    exact .inr ⟨_, rfl, k eh H (.int _) (.int _) .refl R rfl m⟩
  · exact m.elim
/-- tuple(x); list(x), frozen or explicit -/
def bTuple : EOL := fun xs eh q => match xs with
  | [.tup ys] => q (.tup ys) eh
  | [x] => ∃ ys, seqE eh x = some ys ∧ q (.tup ys) eh
  | _ => False
theorem cb_tuple : CallR X (.type "tuple") (UL X.K X.mg bTuple) := CallR.imp call_tuple_of fun vs H Q ⟨Hd, eh, xs, q, R, rx, m, k⟩ => by
  have key : ∀ {x : EV} {ys : List EV}, RpL X.K X.mg Hd eh H [x] vs → seqE eh x = some ys → q (.tup ys) eh → ∃ p ys, vs = [.ref p] ∧ ((SqL X.K H p ys ∧ ∀ l, H l = none → Q (.ref l) (upd H l (.tup ys))) ∨ (SqT X.K H p ys ∧ Q (.ref p) H)) := fun {x ys} rx hy m => by
    obtain ⟨v, rfl, h⟩ := one_of rx
    obtain ⟨a, ws, rfl, hs, rr⟩ := seq_of R h hy
    refine ⟨a, ws, rfl, ?_⟩
    rcases hs with hs | hs
    · exact .inl ⟨hs, fun l hl => k eh _ (.tup ys) (.ref l) (.newF hl) (R.newF hl) ⟨l, ws, rfl, .inl (.inl upd_same), rr.step (.newF hl)⟩ m⟩
    · exact .inr ⟨hs, k eh H (.tup ys) (.ref a) .refl R ⟨a, ws, rfl, hs, rr⟩ m⟩
  unfold bTuple at m
  split at m
  · exact key rx rfl m
  · obtain ⟨ys, hy, m⟩ := m; exact key rx hy m
  · exact m.elim
def bList : EOL := fun xs eh q => match xs with
  | [x] => ∃ ys, seqE eh x = some ys ∧ q (.lst ys) eh
  | _ => False
def bListR : EOL := fun xs eh q => match xs with
  | [x] => ∃ ys, seqE eh x = some ys ∧ ∀ p, eh p = none → q (.ref p) (eupd eh p (some (.lst ys)))
  | _ => False
theorem cb_list : CallR X (.type "list") (UL X.K X.mg bList) := CallR.imp call_list_of fun vs H Q ⟨Hd, eh, xs, q, R, rx, m, k⟩ => by
  unfold bList at m
  split at m
  · obtain ⟨ys, hy, m⟩ := m
    obtain ⟨v, rfl, h⟩ := one_of rx
    obtain ⟨a, ws, rfl, hs, rr⟩ := seq_of R h hy
    exact ⟨a, ws, rfl, hs, fun l hl => k eh _ (.lst ys) (.ref l) (.newF hl) (R.newF hl) ⟨l, ws, rfl, upd_same, ⟨R.fresh hl, R.notHid hl⟩, rr.step (.newF hl)⟩ m⟩
  · exact m.elim
theorem cb_listR : CallR X (.type "list") (UL X.K X.mg bListR) := CallR.imp call_list_of fun vs H Q ⟨Hd, eh, xs, q, R, rx, m, k⟩ => by
  unfold bListR at m
  split at m
  · obtain ⟨ys, hy, m⟩ := m
    obtain ⟨v, rfl, h⟩ := one_of rx
    obtain ⟨a, ws, rfl, hs, rr⟩ := seq_of R h hy
    exact ⟨a, ws, rfl, hs, fun l hl => k _ _ (.ref l) (.ref l) (.new hl) (R.new (eo := .lst ys) hl ⟨ws, upd_same, rr.step (.new hl)⟩) rfl (m l (R.fresh hl))⟩
  · exact m.elim
end

/-! ### methods of lists, texts, dicts -/
def isLst (eh : Eh) (x : EV) : Prop := ∃ xs, lstE eh x = some xs
def isStr (eh : Eh) (x : EV) : Prop := ∃ z, x = .str z
theorem isLst_ty {K mg Hd eh H x v} (R : Rh K mg Hd eh H) (r : Rp K mg Hd eh H x v) (h : isLst eh x) : tyV K "list" v H := by
  obtain ⟨xs, h⟩ := h
  obtain ⟨a, vs, rfl, e, _⟩ := lst_of R r h
  exact .inl ⟨rfl, vs, .inl (.inl e)⟩
theorem isStr_ty {K mg Hd eh H x v} (R : Rh K mg Hd eh H) (r : Rp K mg Hd eh H x v) (h : isStr eh x) : tyV K "str" v H := by
  obtain ⟨z, rfl⟩ := h
  cases r; exact rfl
def mBM (c : Eh → EV → Prop) (o : EV → EOL) (ma : ME) (t : MA) : ME := fun xc es eh q => ma xc es eh fun x eh1 => c eh1 x ∧ t xc es eh1 fun xs eh2 => o x xs eh2 q
section
variable {X : Cx} {E : XK} {o e : Expr} {es : List Expr} {ma : ME} {t : MA} {name : Str} {apos cpos : Pos} {T id : String} {r : EV → EOL} {c : Eh → EV → Prop}
theorem re_bm (pa : PlainAttrs T) (slot : Slot T name id) (hty : typeOf (.builtin id) = pure (.type "method_descriptor")) (hm : MtR X id (UM X.K X.mg r)) (hc : ∀ {Hd eh H x v}, Rh X.K X.mg Hd eh H → Rp X.K X.mg Hd eh H x v → c eh x → tyV X.K T v H)
    (ho : PE X o (U X.K X.mg E ma)) (ha : PA X (e :: es) (UA X.K X.mg E t))
    (hbase : attributeBase o name X.env (eval o X.env) = eval o X.env := by rfl)
    (hfew : ((backTo cpos (starEach (e :: es) X.env)).all (fun x => !x.1) && (backToKw cpos (keywordEach [] X.env)).all (fun x => x.1.isSome)
      && decide ((e :: es).length + ([] : List Keyword).length + (if ([] : List Keyword).isEmpty then 0 else 1) < 30)) = true := by rfl)
    (hline : (apos.endLine == cpos.line) = true := by rfl) (hs : starEach (e :: es) X.env = (false, eval e X.env) :: starEach es X.env := by rfl) (hplain : (backTo cpos (starEach es X.env)).any (·.1) = false := by rfl) :
    PE X (.Call (.Attribute o name apos) (e :: es) [] cpos) (U X.K X.mg E (mBM c r ma t)) :=
  PE.imp (pe_bm pa slot hty hm ho ha hbase hfew hline hs hplain) fun σ H Q ⟨Hd, es, eh, xc, q, R, xo, m, k⟩ => ⟨Hd, es, eh, xc, _, R, xo, m, fun eh1 H1 x v s1 R1 r1 ⟨hx, m1⟩ => ⟨hc R1 r1 hx, Hd, es, eh1, xc, _, R.step s1 R1, xo.step s1, m1, fun eh2 H2 xs vs s2 R2 r2 m2 =>
    ⟨Hd, eh2, x, xs, q, R2, r1.step s2, r2, m2, fun eh3 H3 z w s3 => k eh3 H3 z w (s1.trans (s2.trans s3))⟩⟩⟩
theorem re_bm0 (pa : PlainAttrs T) (slot : Slot T name id) (hty : typeOf (.builtin id) = pure (.type "method_descriptor")) (hm : MtR X id (UM X.K X.mg r)) (hc : ∀ {Hd eh H x v}, Rh X.K X.mg Hd eh H → Rp X.K X.mg Hd eh H x v → c eh x → tyV X.K T v H)
    (ho : PE X o (U X.K X.mg E ma)) (hbase : attributeBase o name X.env (eval o X.env) = eval o X.env := by rfl) (hline : (apos.endLine == cpos.line) = true := by rfl) : PE X (.Call (.Attribute o name apos) [] [] cpos) (U X.K X.mg E (mBM c r ma aNil)) :=
  PE.imp (pe_bm0 pa slot hty hm ho hbase hline) fun σ H Q ⟨Hd, es, eh, xc, q, R, xo, m, k⟩ => ⟨Hd, es, eh, xc, _, R, xo, m, fun eh1 H1 x v s1 R1 r1 ⟨hx, m1⟩ => ⟨hc R1 r1 hx,
    Hd, eh1, x, [], q, R1, r1, .nil, m1, fun eh3 H3 z w s3 => k eh3 H3 z w (s1.trans s3)⟩⟩
def oAppend : EV → EOL := fun x xs eh q => match x, xs with
  | .ref a, [y] => ∃ ys, eh a = some (.lst ys) ∧ ys.length < sizeLine ∧ q .non (eupd eh a (some (.lst (ys ++ [y]))))
  | _, _ => False
theorem refl_lst {K mg Hd eh H} {a : Addr} {xs : List EV} (R : Rh K mg Hd eh H) (h : eh a = some (.lst xs)) : ∃ vs, H a = some (.lst vs) ∧ RpL K mg Hd eh H xs vs := R.ob a _ h
theorem write_lst {K mg Hd eh H} {a : Addr} {xs ys : List EV} {vs : List V} (R : Rh K mg Hd eh H) (h : eh a = some (.lst xs)) (r : RpL K mg Hd eh H ys vs) : Step eh H (eupd eh a (some (.lst ys))) (upd H a (.lst vs)) ∧ Rh K mg Hd (eupd eh a (some (.lst ys))) (upd H a (.lst vs)) :=
  ⟨.write R h, R.write h ⟨vs, upd_same, r.step (.write R h)⟩⟩
theorem mt_append_e : MtR X "list.append" (UM X.K X.mg oAppend) := by
  intro pins s σ H v vs u us Q I r1 r2 ⟨Hd, eh, x, xs, q, R, rx, rxs, m, k⟩
  unfold oAppend at m
  split at m
  · cases rx
    obtain ⟨w, rfl, rw'⟩ := one_of rxs
    obtain ⟨ys, he, hl, m⟩ := m
    obtain ⟨vs, hv, rv⟩ := refl_lst R he
    obtain ⟨st, R'⟩ := write_lst R he (rv.append (.one rw'))
    exact mt_append pins s σ H _ _ u us Q I r1 r2 ⟨_, vs, w, rfl, rfl, hv, by rw [← rv.length]; exact hl, k _ _ .non .non st R' rfl m⟩
  · exact m.elim
def oPop : EV → EOL := fun x xs eh q => match x, xs with
  | .ref a, [] => ∃ ys y, eh a = some (.lst (ys ++ [y])) ∧ q y (eupd eh a (some (.lst ys)))
  | .ref a, [.int i] => ∃ ys j y, eh a = some (.lst ys) ∧ -(2 ^ 63) ≤ i ∧ i < 2 ^ 63 ∧ ixN ys.length i = some j ∧ ys[j]? = some y ∧ q y (eupd eh a (some (.lst (ys.eraseIdx j))))
  | _, _ => False
theorem mt_pop_e : MtR X "list.pop" (UM X.K X.mg oPop) := by
  intro pins s σ H v vs u us Q I r1 r2 ⟨Hd, eh, x, xs, q, R, rx, rxs, m, k⟩
  unfold oPop at m
  split at m
  · cases rx; cases rxs
    obtain ⟨ys, y, he, m⟩ := m
    obtain ⟨vs, hv, rv⟩ := refl_lst R he
    obtain ⟨w, hw, rw'⟩ := rv.get (i := ys.length) (x := y) (by simp)
    have hl := rv.length
    simp at hl
    have rd := rv.dropLast
    rw [List.dropLast_concat] at rd
    obtain ⟨st, R'⟩ := write_lst R he rd
    exact mt_pop pins s σ H _ _ u us Q I r1 r2 ⟨_, vs, w, rfl, rfl, hv, by rw [← hl]; exact hw, k _ _ y w st R' (rw'.step st) m⟩
  · cases rx
    obtain ⟨w, rfl, rw'⟩ := one_of rxs
    cases rw'
    obtain ⟨ys, j, y, he, h1, h2, h3, h4, m⟩ := m
    obtain ⟨vs, hv, rv⟩ := refl_lst R he
    obtain ⟨w, hw, rw'⟩ := rv.get h4
    obtain ⟨st, R'⟩ := write_lst R he (rv.eraseIdx j)
    exact mt_popAt pins s σ H _ _ u us Q I r1 r2 ⟨_, vs, _, j, w, rfl, rfl, hv, h1, h2, by rw [← rv.length]; exact (ixN_seq h3).1, hw, k _ _ y w st R' (rw'.step st) m⟩
  · exact m.elim
def oExtend : EV → EOL := fun x xs eh q => match x, xs with
  | .ref a, [y] => ∃ ys zs, eh a = some (.lst ys) ∧ lstE eh y = some zs ∧ ys.length + zs.length ≤ sizeLine ∧ q .non (eupd eh a (some (.lst (ys ++ zs))))
  | _, _ => False
theorem mt_extend_e : MtR X "list.extend" (UM X.K X.mg oExtend) := by
  intro pins s σ H v vs u us Q I r1 r2 ⟨Hd, eh, x, xs, q, R, rx, rxs, m, k⟩
  unfold oExtend at m
  split at m
  · cases rx
    obtain ⟨w, rfl, rw'⟩ := one_of rxs
    obtain ⟨ys, zs, he, hz, hl, m⟩ := m
    obtain ⟨vs, hv, rv⟩ := refl_lst R he
    obtain ⟨b, ws, rfl, hb, rb⟩ := lst_of R rw' hz
    obtain ⟨st, R'⟩ := write_lst R he (rv.append rb)
    exact mt_extend pins s σ H _ _ u us Q I r1 r2 ⟨_, b, vs, ws, rfl, rfl, hv, hb, by rw [← rv.length, ← rb.length]; exact hl, k _ _ .non .non st R' rfl m⟩
  · exact m.elim
/-! ### slices of lists, tuples, texts -/
def mNo : XC → Es → Eh → (Option Int → Eh → Prop) → Prop := fun _ _ eh q => q none eh
def mPt (m : ME) : XC → Es → Eh → (Option Int → Eh → Prop) → Prop := fun xc es eh q => m xc es eh fun x eh1 => match x with | .int i => q (some i) eh1 | _ => False
def UO (K : PySem.W.Frag) (mg : Str → Option Value) (E : XK) (m : XC → Es → Eh → (Option Int → Eh → Prop) → Prop) : TO := fun σ H Q => ∃ Hd es eh xc q, Rl K mg Hd eh H es σ ∧ XOk K mg E Hd eh H xc ∧ m xc es eh q ∧
  ∀ eh' H' b, Step eh H eh' H' → Rh K mg Hd eh' H' → q b eh' → Q b H'
theorem PO.imp {X : Cx} {e : Option Expr} {t t' : TO} (h : PO X e t) (i : ∀ σ H Q, t' σ H Q → t σ H Q) : PO X e t' := ⟨fun pins s σ H Q I w => h.run pins s σ H Q I (i σ H Q w)⟩
theorem ro_no : PO X none (UO X.K X.mg E mNo) := PO.imp po_none fun σ H Q ⟨Hd, es, eh, xc, q, R, xo, m, k⟩ => k eh H none .refl R.obj m
theorem ro_some (h : PE X e (U X.K X.mg E ma)) : PO X (some e) (UO X.K X.mg E (mPt ma)) := PO.imp (po_some h) fun σ H Q ⟨Hd, es, eh, xc, q, R, xo, m, k⟩ => ⟨Hd, es, eh, xc, _, R, xo, m, fun eh1 H1 x v s1 R1 r1 m1 => by
  cases x with
  | int i => cases r1; exact ⟨i, rfl, k eh1 H1 (some i) s1 R1 m1⟩
  | _ => exact m1.elim⟩
def cutE (xs : List EV) (lo hi : Option Int) : List EV := (xs.drop (HT.sIx xs.length 0 lo)).take (HT.sIx xs.length xs.length hi - HT.sIx xs.length 0 lo)
abbrev EOS := EV → Option Int → Option Int → Eh → KE → Prop
def USl (K : PySem.W.Frag) (mg : Str → Option Value) (o : EOS) : V → Option Int → Option Int → Hp → VK → Prop := fun v lo hi H Q => ∃ Hd eh x q, Rh K mg Hd eh H ∧ Rp K mg Hd eh H x v ∧ o x lo hi eh q ∧
  ∀ eh' H' z w, Step eh H eh' H' → Rh K mg Hd eh' H' → Rp K mg Hd eh' H' z w → q z eh' → Q w H'
def mSl (o : EOS) (ma : ME) (lo hi : XC → Es → Eh → (Option Int → Eh → Prop) → Prop) : ME := fun xc es eh q => ma xc es eh fun x eh1 => lo xc es eh1 fun l eh2 => hi xc es eh2 fun h eh3 => o x l h eh3 q
theorem re_slice {lo hi : Option Expr} {ml mh} {os : EOS} {pos p2 : Pos} (hr : SlR X (USl X.K X.mg os)) (he : PE X e (U X.K X.mg E ma)) (hl : PO X lo (UO X.K X.mg E ml)) (hu : PO X hi (UO X.K X.mg E mh)) : PE X (.Subscript e (.Slice lo hi none p2) pos) (U X.K X.mg E (mSl os ma ml mh)) :=
  PE.imp (pe_slice hr he hl hu) fun σ H Q ⟨Hd, es, eh, xc, q, R, xo, m, k⟩ => ⟨Hd, es, eh, xc, _, R, xo, m, fun eh1 H1 x v s1 R1 r1 m1 => ⟨Hd, es, eh1, xc, _, R.step s1 R1, xo.step s1, m1, fun eh2 H2 l s2 R2 m2 =>
    ⟨Hd, es, eh2, xc, _, (R.step s1 R1).step s2 R2, (xo.step s1).step s2, m2, fun eh3 H3 h s3 R3 m3 => ⟨Hd, eh3, x, q, R3, (r1.step s2).step s3, m3, fun eh4 H4 z w s4 => k eh4 H4 z w (s1.trans (s2.trans (s3.trans s4)))⟩⟩⟩⟩
/-- frozen: lists (also the script), tuples; a text -/
def oSlice : EOS := fun x lo hi eh q => match x with
  | .str z => z.length ≤ sizeLine ∧ q (.str (cutS z lo hi)) eh
  | .tup xs => (xs = cutE xs lo hi ∨ xs ≠ cutE xs lo hi) ∧ q (.tup (cutE xs lo hi)) eh
  | x => ∃ xs, seqE eh x = some xs ∧ q (.lst (cutE xs lo hi)) eh
end
end VM

/-! VM7: sorted(xs), sorted(xs, key=lambda x: x[0]); slices. -/
namespace VM
open PySem PySem.Spec PyProof.Rows L2

theorem extN_step {eh : Eh} {H H' : Hp} (e : LamX.ExtN H H') : Step eh H eh H' :=
  ⟨fun a o h n t => ⟨e a o h t, n⟩, fun a xs h => e a _ h (fun _ z => by cases z), fun a o u h => e a _ h (fun _ z => by cases z)⟩
theorem extN_rh {K mg Hd eh} {H H' : Hp} (R : Rh K mg Hd eh H) (e : LamX.ExtN H H') (t : LamX.Tabs (tabT K) H') : Rh K mg Hd eh H' :=
  ⟨t, fun a o h => by
    obtain ⟨u, hu, _, _, _, ht, _⟩ := (R.ob a o h).some
    exact (R.ob a o h).step' (extN_step e) ((e a u hu ht).trans hu.symm), fun a z => by
    obtain ⟨⟨o, ho⟩, n⟩ := R.hd a z
    exact ⟨⟨o, e a _ ho (fun _ z => by cases z)⟩, n⟩⟩

/-! ### sorted by the text at place 0 -/
def key0 : EV → PyData
  | .tup (.str s :: _) => .str s
  | _ => .none
def isK0 : EV → Bool
  | .tup (.str _ :: _) => true
  | _ => false
def sortK0 (xs : List EV) : List EV := xs.mergeSort (W.dataLe false key0)
def mSortK0 (ma : ME) : ME := fun xc es eh q => ma xc es eh fun x eh1 => ∃ xs, lstE eh1 x = some xs ∧ xs.all isK0 = true ∧ q (.lst (sortK0 xs)) eh1
theorem eachIs_zip {α β : Type} {R : α → β → Prop} : ∀ {as : List α} {bs : List β}, as.length = bs.length → (∀ (i : Nat) a b, as[i]? = some a → bs[i]? = some b → R a b) → W.EachIs R as bs
  | [], [], _, _ => .nil
  | a :: as, b :: bs, hl, h => .cons (h 0 a b rfl rfl) (eachIs_zip (by simpa using hl) fun i a b e e' => h (i + 1) a b (by simpa using e) (by simpa using e'))
  | [], _ :: _, hl, _ => by simp at hl
  | _ :: _, [], hl, _ => by simp at hl
theorem eachIs_get {α β : Type} {R : α → β → Prop} : ∀ {as : List α} {bs : List β}, W.EachIs R as bs → ∀ (i : Nat) b, bs[i]? = some b → ∃ a, as[i]? = some a ∧ R a b
  | _, _, .nil, _, _, h => by simp at h
  | _, _, .cons r t, 0, b, h => by simp at h; subst h; exact ⟨_, rfl, r⟩
  | _, _, .cons r t, i + 1, b, h => by simpa using eachIs_get t i b (by simpa using h)
theorem each_vals {Rr : V × EV → Prop} : ∀ {us : List Value} {bs : List (V × EV)}, W.EachIs (fun u b => RelV b.1 u ∧ Rr b) us bs → Vals (bs.map (·.1)) us
  | _, _, .nil => .nil
  | _, _, .cons r t => .cons r.1 (each_vals t)
theorem rpL_of {K mg Hd eh H} : ∀ {bs : List (V × EV)}, (∀ b ∈ bs, Rp K mg Hd eh H b.2 b.1) → RpL K mg Hd eh H (bs.map (·.2)) (bs.map (·.1))
  | [], _ => rfl
  | b :: bs, h => .cons (h b (by simp)) (rpL_of fun c hc => h c (by simp [hc]))
theorem zip_fst {α β : Type} : ∀ {as : List α} {bs : List β}, as.length = bs.length → (as.zip bs).map (·.1) = as
  | [], [], _ => rfl
  | a :: as, b :: bs, h => by simp [zip_fst (as := as) (bs := bs) (by simpa using h)]
  | [], _ :: _, h => by simp at h
  | _ :: _, [], h => by simp at h
theorem zip_snd {α β : Type} : ∀ {as : List α} {bs : List β}, as.length = bs.length → (as.zip bs).map (·.2) = bs
  | [], [], _ => rfl
  | a :: as, b :: bs, h => by simp [zip_snd (as := as) (bs := bs) (by simpa using h)]
  | [], _ :: _, h => by simp at h
  | _ :: _, [], h => by simp at h
section
variable {X : Cx} {E : XK} {e : Expr} {ma : ME}
/-- what a call of the lambda gives -/
theorem lam0_call {pins : List (Addr × Obj)} {σ : L2.St} {H : Hp} {s : Shared} (I : Inv X pins σ H s) {f c' : Addr} {q : Str} {params : Arguments} {scope : Scope} {cl : List (Str × Addr)} {pm ctv : Value} {x : Str} {p1 p2 p3 : Pos} {j : Nat}
    (hf : s.heap.get? f = some (PySem.W.kla_obj "<lambda>" q params (.Subscript (.Name x p1) (.Constant (.int 0) j p2) p3) scope cl pm c' ctv)) (hc : H c' = some (LamX.CodeO c' q))
    (hkind : scope.kind = .function) (hco : scope.isCoroutine = false) (hgen : scope.isGenerator = false) (hcell : ∀ y ∈ scope.names, y.2 ≠ .cell) (hx : scope.names.lookup x = some .local) (hdb : (x == ("__debug__" : Str)) = false)
    (hbind : ∀ (v : Value), bindArgs (PySem.W.kla_fn "<lambda>" q params (.Subscript (.Name x p1) (.Constant (.int 0) j p2) p3) scope cl pm (.ref c') ctv) ⟨[v], []⟩ = pure [(x, v)])
    {t : Addr} {z : Str} {ws : List V} (ht : SqT X.K H t (.str z :: ws)) {A : Around} (hA : A.depth < recursionLimit) {h : Heap} {tk : Nat} (hk : ∀ b o, s.heap.get? b = some o → h.get? b = some o) :
    wpAny (model X.prog X.w) A (call (.ref f) [.ref t]) (PySem.W.KeyPure (.str z) { s with heap := h, toks := tk }) (fun _ _ => False) { s with heap := h, toks := tk } := by
  have hrec : h.CodeRec (.ref c') q := by
    obtain ⟨⟨oc, vs, tq, e1, e2, e3⟩, _⟩ := I.hok c' _ hc
    exact ⟨c', oc, vs, tq, rfl, hk _ _ e1, e2, e3⟩
  obtain ⟨its, rv, tup, _⟩ := I.tuple ht
  cases rv with
  | cons r rr =>
    rename_i u0 us
    obtain ⟨tz, rfl⟩ := r
    refine wpAny_call ?_
    refine PySem.W.kla_callFunE hA (hk _ _ hf) rfl hco hgen rfl hrec ?_
    rw [hbind]
    refine wpAny_pure (wpAny_newFunctionEnv hcell (fun y hy => by simp at hy; subst hy; exact hx) (fun h₁ hns hsb => ⟨(I.nolimit.keeps hk).fresh _ hsb, ?_⟩) hkind)
    have kp : ∀ b o, h.get? b = some o → h₁.get? b = some o := fun b o e => hsb.extBut b o (Nat.ne_of_lt (Heap.lt_size e)) (Heap.get?_push_of_some _ e)
    refine PySem.W.kla_codeExpr ?_
    refine Subscript_ (wpAny_Name (wpAny_loadName_local (v := .ref t) hkind hx hns (by simp) ?_) hdb)
    refine wpAny_Constant_int ?_
    have tup1 : IsTup h₁ t (Value.str z tz :: us).toArray := by
      obtain ⟨o, a, b, n, c⟩ := tup
      exact ⟨o, kp _ _ (hk _ _ a), b, n, c⟩
    exact subscriptTail_builtinR (x := Value.str z tz) tup1.typeIs slot_tuple_getitem.lookup
      (getItem_tuple (j := 0) (Q := fun r s' => r = Value.str z tz ∧ _) tup1 (by omega) (by omega) (by simp [seqIndex?]) (by simp) ⟨rfl, ⟨_, _, rfl, fun b o e => kp b o e, .str z tz⟩⟩) (by intros; rfl)
theorem mem_get {α : Type} {l : List α} {a : α} (h : a ∈ l) : ∃ i : Nat, l[i]? = some a := by
  obtain ⟨i, hi, e⟩ := List.getElem_of_mem h
  exact ⟨i, by rw [List.getElem?_eq_getElem hi, e]⟩
theorem isK0_of {x : EV} (h : isK0 x = true) : ∃ s r, x = .tup (.str s :: r) := by
  unfold isK0 at h
  split at h
  · exact ⟨_, _, rfl⟩
  · cases h
theorem re_sortK0 {k : Nat} {c P : Addr} {x : Str} {p p1 p2 p3 p4 p5 pos : Pos} {j : Nat} {params : Arguments} {scope : Scope} (hg : Gl X "sorted") (hm : X.mg "sorted" = none) (he : PE X e (U X.K X.mg E ma)) (hr : RoomG k X.A) (TB : LamX.TabB X.base X.mg c P) (hcode : X.env.code = .ref c)
    (hin : (P, X.env.qual ++ "<lambda>") ∈ tabT X.K) (hu : ∀ p ∈ tabT X.K, p.1 = P → p.2 = X.env.qual ++ "<lambda>") (hdef : defaultsOf params X.env = ([], [])) (hfree : ∀ y ∈ scope.names, y.2 = .free → ∃ c, X.env.cells.lookup y.1 = some c)
    (hkind : scope.kind = .function) (hco : scope.isCoroutine = false) (hgen : scope.isGenerator = false) (hcell : ∀ y ∈ scope.names, y.2 ≠ .cell) (hx : scope.names.lookup x = some .local) (hdb : (x == ("__debug__" : Str)) = false)
    (hbind : ∀ (q : Str) (cl : List (Str × Addr)) (pm cv ctv v : Value), bindArgs (PySem.W.kla_fn "<lambda>" q params (.Subscript (.Name x p1) (.Constant (.int 0) j p2) p3) scope cl pm cv ctv) ⟨[v], []⟩ = pure [(x, v)])
    (he0 : starEach [e] X.env = (false, eval e X.env) :: starEach [] X.env := by rfl) (he1 : backTo pos (starEach [e] X.env) = (false, eval e X.env) :: backTo pos (starEach [] X.env) := by rfl) (hpl : (backTo pos (starEach [e] X.env)).any (·.1) = false := by rfl) :
    PE X (.Call (.Name "sorted" p) [e] [⟨some "key", .Lambda params (.Subscript (.Name x p1) (.Constant (.int 0) j p2) p3) scope p4, p5⟩] pos) (U X.K X.mg E (mSortK0 ma)) := by
  refine ⟨fun pins s σ H Q I h => ?_⟩
  refine wpAny_Call_Name_kw (ld_blt (u := .builtin "sorted") I hg hm (by rfl) ?_ (by decide))
  obtain ⟨Hd, es, eh, xc, q, R, xo, m, kk⟩ := h
  refine PyProof.Rows.callWith_kw (PyProof.Rows.args_cons (thn (he.run pins s σ H _ I ⟨Hd, es, eh, xc, _, R, xo, m, fun eh1 H1 x1 v1 s1 R1 r1 m1 => (⟨eh1, x1, s1, R1, r1, m1⟩ : ∃ eh1 x1, Step eh H eh1 H1 ∧ Rh X.K X.mg Hd eh1 H1 ∧ Rp X.K X.mg Hd eh1 H1 x1 v1 ∧ ∃ xs, lstE eh1 x1 = some xs ∧ xs.all isK0 = true ∧ q (.lst (sortK0 xs)) eh1)⟩) fun v1 s1 ⟨x1, H1, I1, rr, eh1, y1, t1, R1, r1, xs, hl, hk, m1⟩ => PyProof.Rows.args_nil ?_) he0) he1 hpl (by rfl) (by rfl)
  refine PyProof.Rows.kws_cons (LamX.lam_make2 I1 TB hcode hin hu R1.tb hdef hfree fun f c' pm ctv H2 s2 I2 ex2 tb2 hf nf _ hc => PyProof.Rows.kws_nil ?_)
  show wpAny _ _ (call (.builtin "sorted") [v1] [(Str.ofString "key", .ref f)]) _ _ _
  have R2 := extN_rh R1 ex2 tb2
  have t2 := extN_step (eh := eh1) ex2
  obtain ⟨a, vs, rfl, ha, rx⟩ := lst_of R2 (r1.step t2) hl
  cases rr
  obtain ⟨its, rv, hls, hz⟩ := I2.list (.inl (.inl ha))
  have hlen : vs.length = xs.length := rx.length.symm
  have hzf := zip_fst (as := vs) (bs := xs) hlen
  have hzs := zip_snd (as := vs) (bs := xs) hlen
  have kpos : ∀ b ∈ vs.zip xs, ∃ s r, b.2 = .tup (.str s :: r) := fun b hb => isK0_of (List.all_eq_true.mp hk b.2 (List.of_mem_zip hb).2)
  have kdat : ∀ b ∈ vs.zip xs, ∃ s, key0 b.2 = .str s := fun b hb => by obtain ⟨s, r, e⟩ := kpos b hb; exact ⟨s, by rw [e]; rfl⟩
  have hea : W.EachIs (fun (u : Value) (b : V × EV) => RelV b.1 u ∧ Rp X.K X.mg Hd eh1 H2 b.2 b.1) its (vs.zip xs) := by
    refine eachIs_zip (by rw [List.length_zip, ← rv.length, hlen, Nat.min_self]) fun i u b hu hb => ?_
    rw [List.getElem?_zip_eq_some] at hb
    obtain ⟨x', hx', r'⟩ := rx.get' hb.1
    rw [hb.2] at hx'; cases hx'
    obtain ⟨u', hu', rr'⟩ := rv.get hb.1
    rw [hu] at hu'; cases hu'
    exact ⟨rr', r'⟩
  refine PySem.W.sorted_key_data (β := V × EV) (b := false) (fun b => key0 b.2) hls.isList hea ?_ ?_ (by rw [List.length_zip, hlen, Nat.min_self]; omega) ?_ (ksk_s1 _ _) (fun _ => ksk_l1 _ _) (fun _ => ksk_t1 _ _) ?_ ?_
  · intro d hd d' hd'
    obtain ⟨b, hb, rfl⟩ := List.mem_map.mp hd
    obtain ⟨b', hb', rfl⟩ := List.mem_map.mp hd'
    obtain ⟨s, e⟩ := kdat b hb
    obtain ⟨s', e'⟩ := kdat b' hb'
    rw [e, e']; rfl
  · refine .inr fun d hd => ?_
    obtain ⟨b, hb, rfl⟩ := List.mem_map.mp hd
    obtain ⟨s, e⟩ := kdat b hb
    rw [e]; exact ⟨by simp, by simp⟩
  · intro b hb
    obtain ⟨s, e⟩ := kdat b hb
    rw [e]
    have := hr.units
    show _ + 2 + 0 < _
    omega
  · intro v b hR hb h tk hkp
    obtain ⟨s, r, e⟩ := kpos b hb
    have hr2 := hR.2
    rw [e] at hr2 ⊢
    obtain ⟨t, ws, e1, sq, rw1⟩ := hr2
    obtain ⟨z, ws', rfl, e2, _⟩ := rw1
    cases e2
    have hv := hR.1
    rw [e1] at hv
    cases hv
    exact lam0_call I2 hf hc hkind hco hgen hcell hx hdb (fun v => hbind _ _ _ _ _ v) sq (by have := hr.dp; show X.A.depth < recursionLimit; omega) hkp
  · intro out c h' tk hkp hn hD hol hout
    have ep := each_vals hout
    have hL2 : ((vs.zip xs).mergeSort (W.dataLe false fun b => key0 b.2)).length ≤ sizeLine := by
      rw [(List.mergeSort_perm _ _).length_eq, List.length_zip, hlen, Nat.min_self]; omega
    have hrp : RpL X.K X.mg Hd eh1 H2 (((vs.zip xs).mergeSort (W.dataLe false fun b => key0 b.2)).map (·.2)) (((vs.zip xs).mergeSort (W.dataLe false fun b => key0 b.2)).map (·.1)) := rpL_of fun b hb => by
      have hb' := (List.mergeSort_perm _ _).mem_iff.mp hb
      obtain ⟨i, hi⟩ := mem_get hb'
      obtain ⟨u, _, h2⟩ := eachIs_get hea i b hi
      exact h2.2
    have hsort : ((vs.zip xs).mergeSort (W.dataLe false fun b => key0 b.2)).map (·.2) = sortK0 xs := by
      rw [PySem.W.sort_maps (r := W.dataLe false fun b : V × EV => key0 b.2) (s := W.dataLe false key0) (fun b : V × EV => b.2) (fun _ _ _ _ => rfl), hzs]; rfl
    rw [hsort] at hrp
    have n2 : H2 (s2.heap.objs.size + 1) = none := I2.hok.fresh (Nat.le_succ _)
    refine ⟨.ref _, upd H2 (s2.heap.objs.size + 1) (.lst (((vs.zip xs).mergeSort (W.dataLe false fun b => key0 b.2)).map (·.1))), I2.laid (t' := tk) hkp (Nat.le_succ _) ⟨by rw [List.length_map]; exact hL2, out, c, ep, hD⟩, rfl, ?_⟩
    have st : Step eh1 H2 eh1 (upd H2 (s2.heap.objs.size + 1) (.lst (((vs.zip xs).mergeSort (W.dataLe false fun b => key0 b.2)).map (·.1)))) := .newF n2
    exact kk eh1 _ (.lst (sortK0 xs)) (.ref _) ((t1.trans t2).trans st) (R2.newF n2) ⟨_, _, rfl, upd_same, ⟨R2.fresh n2, R2.notHid n2⟩, hrp.step st⟩ m1
end
end VM

/-! VM8: ghosts (explicit objects frozen); fields; dicts; instances; properties; keywords; stars. -/
namespace VM
open PySem PySem.Spec PyProof.Rows L2

/-! ### ghosts -/
def fz (S : Addr → Bool) (eh : Eh) : Nat → EV → EV
  | 0, x => x
  | n + 1, x => match x with
    | .tup xs => .tup (xs.map (fz S eh n))
    | .lst xs => .lst (xs.map (fz S eh n))
    | .dct kvs => .dct (kvs.map fun p => (p.1, fz S eh n p.2))
    | .obj C fs => .obj C (fs.map fun p => (p.1, fz S eh n p.2))
    | .ref a => if S a then (match eh a with
      | some (.lst xs) => .lst (xs.map (fz S eh n))
      | some (.dct kvs) => .dct (kvs.map fun p => (p.1, fz S eh n p.2))
      | some (.ins C fs) => .obj C (fs.map fun p => (p.1, fz S eh n p.2))
      | none => .ref a) else .ref a
    | x => x
def dcs (S : Addr → Bool) (eh : Eh) : Nat → EV → List Addr
  | 0, _ => []
  | n + 1, x => match x with
    | .tup xs => xs.flatMap (dcs S eh n)
    | .lst xs => xs.flatMap (dcs S eh n)
    | .dct kvs => kvs.flatMap fun p => dcs S eh n p.2
    | .obj C fs => fs.flatMap fun p => dcs S eh n p.2
    | .ref a => if S a then (match eh a with
      | some (.lst xs) => xs.flatMap (dcs S eh n)
      | some (.dct kvs) => a :: kvs.flatMap fun p => dcs S eh n p.2
      | some (.ins C fs) => fs.flatMap fun p => dcs S eh n p.2
      | none => []) else []
    | _ => []
def drE (S : Addr → Bool) (eh : Eh) : Eh := fun a => if S a then none else eh a
def nw (eh : Eh) : Addr → Bool := fun a => (eh a).isNone
theorem dcs_mem {S : Addr → Bool} {eh : Eh} : ∀ (n : Nat) (x : EV) (d : Addr), d ∈ dcs S eh n x → S d = true ∧ ∃ kvs, eh d = some (.dct kvs)
  | 0, _, _, h => by simp [dcs] at h
  | n + 1, x, d, h => by
    cases x with
    | tup xs => simp only [dcs, List.mem_flatMap] at h; obtain ⟨y, _, h⟩ := h; exact dcs_mem n y d h
    | lst xs => simp only [dcs, List.mem_flatMap] at h; obtain ⟨y, _, h⟩ := h; exact dcs_mem n y d h
    | dct xs => simp only [dcs, List.mem_flatMap] at h; obtain ⟨y, _, h⟩ := h; exact dcs_mem n y.2 d h
    | obj C xs => simp only [dcs, List.mem_flatMap] at h; obtain ⟨y, _, h⟩ := h; exact dcs_mem n y.2 d h
    | ref a =>
      simp only [dcs] at h
      split at h
      · rename_i hs
        cases e : eh a with
        | none => rw [e] at h; simp at h
        | some o =>
          rw [e] at h
          cases o with
          | lst xs => simp only [List.mem_flatMap] at h; obtain ⟨y, _, h⟩ := h; exact dcs_mem n y d h
          | dct xs =>
            rcases List.mem_cons.mp h with h | h
            · subst h; exact ⟨hs, _, e⟩
            · simp only [List.mem_flatMap] at h; obtain ⟨y, _, h⟩ := h; exact dcs_mem n y.2 d h
          | ins C xs => simp only [List.mem_flatMap] at h; obtain ⟨y, _, h⟩ := h; exact dcs_mem n y.2 d h
      · simp at h
    | _ => simp [dcs] at h
theorem RpL.map {K mg Hd} {eh eh' : Eh} {H H' : Hp} {f : EV → EV} : ∀ {xs : List EV} {vs : List V}, (∀ x ∈ xs, ∀ v, Rp K mg Hd eh H x v → Rp K mg Hd eh' H' (f x) v) → RpL K mg Hd eh H xs vs → RpL K mg Hd eh' H' (xs.map f) vs
  | [], _, _, h => h
  | x :: xs, _, i, ⟨v, r, e, h, t⟩ => ⟨v, r, e, i x (by simp) v h, RpL.map (fun y hy => i y (by simp [hy])) t⟩
theorem RpK.map {K mg Hd} {eh eh' : Eh} {H H' : Hp} {f : EV → EV} : ∀ {xs : List (Key × EV)} {vs : List (Key × V)}, (∀ x ∈ xs, ∀ v, Rp K mg Hd eh H x.2 v → Rp K mg Hd eh' H' (f x.2) v) → RpK K mg Hd eh H xs vs → RpK K mg Hd eh' H' (xs.map fun p => (p.1, f p.2)) vs
  | [], _, _, h => h
  | (k, x) :: xs, _, i, ⟨v, r, e, h, t⟩ => ⟨v, r, e, i (k, x) (by simp) v h, RpK.map (fun y hy => i y (by simp [hy])) t⟩
theorem RpF.map {K mg Hd} {eh eh' : Eh} {H H' : Hp} {f : EV → EV} : ∀ {xs : List (Str × EV)} {vs : List (Str × V)}, (∀ x ∈ xs, ∀ v, Rp K mg Hd eh H x.2 v → Rp K mg Hd eh' H' (f x.2) v) → RpF K mg Hd eh H xs vs → RpF K mg Hd eh' H' (xs.map fun p => (p.1, f p.2)) vs
  | [], _, _, h => h
  | (k, x) :: xs, _, i, ⟨v, r, e, h, t⟩ => ⟨v, r, e, i (k, x) (by simp) v h, RpF.map (fun y hy => i y (by simp [hy])) t⟩
section
variable {X : Cx} {Hd : Addr → Prop} {eh : Eh} {H : Hp} {pins : List (Addr × Obj)} {σ : L2.St} {s : Shared}
theorem lock_all (I : Inv X pins σ H s) : ∀ (L : List Addr), (∀ d ∈ L, ∃ us, H d = some (.dK us)) → ∃ H', Inv X pins σ H' s ∧ (∀ d ∈ L, ∃ od us, H d = some (.dK us) ∧ H' d = some (.frz od (.dK us))) ∧ ∀ d, d ∉ L → H' d = H d
  | [], _ => ⟨H, I, fun _ h => by simp at h, fun _ _ => rfl⟩
  | d :: L, h => by
    obtain ⟨H1, I1, a1, b1⟩ := lock_all I L fun c hc => h c (by simp [hc])
    by_cases hd : d ∈ L
    · exact ⟨H1, I1, fun c hc => (List.mem_cons.mp hc).elim (fun e => a1 c (e ▸ hd)) (a1 c), fun c hc => b1 c fun z => hc (by simp [z])⟩
    · obtain ⟨us, e⟩ := h d (by simp)
      obtain ⟨od, I2⟩ := I1.lock ((b1 d hd).trans e) trivial
      refine ⟨_, I2, fun c hc => ?_, fun c hc => ?_⟩
      · by_cases hcd : c = d
        · subst hcd; exact ⟨od, us, e, upd_same⟩
        · obtain ⟨oc, vs, x, y⟩ := a1 c ((List.mem_cons.mp hc).resolve_left hcd)
          exact ⟨oc, vs, x, by rw [upd_ne hcd]; exact y⟩
      · have : c ≠ d := fun z => hc (by simp [z])
        rw [upd_ne this]; exact b1 c fun z => hc (by simp [z])
theorem ghost (I : Inv X pins σ H s) (R : Rh X.K X.mg Hd eh H) (S : Addr → Bool) (n : Nat) (x : EV) (v : V) (r : Rp X.K X.mg Hd eh H x v) :
    ∃ H', Inv X pins σ H' s ∧ Step eh H (drE S eh) H' ∧ Rh X.K X.mg Hd (drE S eh) H' ∧ Rp X.K X.mg Hd (drE S eh) H' (fz S eh n x) v := by
  obtain ⟨H', I', a, b⟩ := lock_all I (dcs S eh n x) fun d hd => by
    obtain ⟨_, kvs, e⟩ := dcs_mem n x d hd
    obtain ⟨us, e, _⟩ := R.ob d _ e
    exact ⟨us, e⟩
  have nd : ∀ c o, H c = some o → (∀ us, o ≠ .dK us) → H' c = some o := fun c o e ne => by
    by_cases hc : c ∈ dcs S eh n x
    · obtain ⟨_, us, e', _⟩ := a c hc; rw [e] at e'; cases e'; exact absurd rfl (ne us)
    · rw [b c hc]; exact e
  have st : Step eh H (drE S eh) H' := by
    refine ⟨fun c o e n' t => ?_, fun c xs e => nd c _ e (fun _ z => nomatch z), fun c o u e => nd c _ e (fun _ z => nomatch z)⟩
    have : c ∉ dcs S eh n x := fun z => by obtain ⟨_, kvs, e⟩ := dcs_mem n x c z; rw [n'] at e; cases e
    exact ⟨by rw [b c this]; exact e, by unfold drE; split <;> first | rfl | exact n'⟩
  have R' : Rh X.K X.mg Hd (drE S eh) H' := by
    refine ⟨fun p hp => ?_, fun c o e => ?_, fun c hc => ?_⟩
    · obtain ⟨ps, q1, q2, q3⟩ := R.tb p hp
      refine ⟨ps, nd _ _ q1 (fun _ z => nomatch z), q2, fun pos cv e => ?_⟩
      obtain ⟨c', e1, e2⟩ := q3 pos cv e
      exact ⟨c', e1, nd _ _ e2 (fun _ z => by unfold LamX.CodeO at z; cases z)⟩
    · unfold drE at e
      split at e
      · cases e
      · rename_i hs
        refine (R.ob c o e).step' st (b c fun z => hs (dcs_mem n x c z).1)
    · obtain ⟨⟨vs, e⟩, e'⟩ := R.hd c hc
      exact ⟨⟨vs, nd _ _ e (fun _ z => nomatch z)⟩, by unfold drE; split <;> first | rfl | exact e'⟩
  refine ⟨H', I', st, R', ?_⟩
  suffices ∀ (m : Nat) (y : EV) (v : V), (∀ d ∈ dcs S eh m y, d ∈ dcs S eh n x) → Rp X.K X.mg Hd eh H y v → Rp X.K X.mg Hd (drE S eh) H' (fz S eh m y) v from this n x v (fun _ z => z) r
  intro m
  induction m with
  | zero => intro y v _ r; exact r.step st
  | succ m ih =>
    intro y v hd r
    cases y with
    | tup xs =>
      obtain ⟨p, vs, e, h, t⟩ := r
      exact ⟨p, vs, e, SqT.step st h, t.map fun y hy v => ih y v fun d hd' => hd d (by simp only [dcs, List.mem_flatMap]; exact ⟨y, hy, hd'⟩)⟩
    | lst xs =>
      obtain ⟨p, vs, e, h, nn, t⟩ := r
      have z := st.st p _ h nn.1 (fun _ z => nomatch z)
      exact ⟨p, vs, e, z.1, ⟨z.2, nn.2⟩, t.map fun y hy v => ih y v fun d hd' => hd d (by simp only [dcs, List.mem_flatMap]; exact ⟨y, hy, hd'⟩)⟩
    | dct xs =>
      obtain ⟨p, o, us, e, h, t⟩ := r
      exact ⟨p, o, us, e, st.frz _ _ _ h, t.map fun y hy v => ih y.2 v fun d hd' => hd d (by simp only [dcs, List.mem_flatMap]; exact ⟨y, hy, hd'⟩)⟩
    | obj C xs =>
      obtain ⟨p, c, dx, us, e, mm, h, nn, t⟩ := r
      have z := st.st p _ h nn.1 (fun _ z => nomatch z)
      exact ⟨p, c, dx, us, e, mm, z.1, ⟨z.2, nn.2⟩, t.map fun y hy v => ih y.2 v fun d hd' => hd d (by simp only [dcs, List.mem_flatMap]; exact ⟨y, hy, hd'⟩)⟩
    | ref p =>
      simp only [fz]
      cases hs : S p with
      | false => simp only [Bool.false_eq_true, if_false]; exact r
      | true =>
        simp only [if_true]
        have hz : drE S eh p = none := by unfold drE; rw [hs]; rfl
        cases e : eh p with
        | none => exact r
        | some o =>
          have nh : ¬ Hd p := fun z => by have := (R.hd p z).2; rw [e] at this; cases this
          have q := R.ob p o e
          cases r
          cases o with
          | lst xs =>
            obtain ⟨vs, h, t⟩ := q
            exact ⟨p, vs, rfl, nd _ _ h (fun _ z => nomatch z), ⟨hz, nh⟩, t.map fun y hy v => ih y v fun d hd' => hd d (by simp only [dcs, hs, e, if_true, List.mem_flatMap]; exact ⟨y, hy, hd'⟩)⟩
          | dct xs =>
            obtain ⟨vs, h, t⟩ := q
            obtain ⟨od, us, h', g⟩ := a p (hd p (by simp only [dcs, hs, e, if_true]; simp))
            rw [h] at h'; cases h'
            exact ⟨p, od, vs, rfl, g, t.map fun y hy v => ih y.2 v fun d hd' => hd d (by simp only [dcs, hs, e, if_true, List.mem_cons, List.mem_flatMap]; exact .inr ⟨y, hy, hd'⟩)⟩
          | ins C xs =>
            obtain ⟨c, dx, us, mm, h, t⟩ := q
            exact ⟨p, c, dx, us, rfl, mm, nd _ _ h (fun _ z => nomatch z), ⟨hz, nh⟩, t.map fun y hy v => ih y.2 v fun d hd' => hd d (by simp only [dcs, hs, e, if_true, List.mem_flatMap]; exact ⟨y, hy, hd'⟩)⟩
    | _ => exact r.step st
end
/-- what the expression made is frozen; what it made and doesn't hold is forgotten -/
def mFz (n : Nat) (ma : ME) : ME := fun xc es eh q => ma xc es eh fun x eh1 => q (fz (nw eh) eh1 n x) (drE (nw eh) eh1)
section
variable {X : Cx} {E : XK} {e a b c o : Expr} {ma mb mc mv : ME} {pos pos' : Pos} {ms : MS} {ss : List Stmt}
theorem re_fz (n : Nat) (he : PE X e (U X.K X.mg E ma)) : PE X e (U X.K X.mg E (mFz n ma)) := by
  refine ⟨fun pins s σ H Q I ⟨Hd, es, eh, xc, q, R, xo, m, k⟩ => ?_⟩
  refine thn (he.run pins s σ H (fun v H1 => ∃ eh1 x, Step eh H eh1 H1 ∧ Rh X.K X.mg Hd eh1 H1 ∧ Rp X.K X.mg Hd eh1 H1 x v ∧ q (fz (nw eh) eh1 n x) (drE (nw eh) eh1)) I ⟨Hd, es, eh, xc, _, R, xo, m, fun eh1 H1 x v s1 R1 r1 m1 => ⟨eh1, x, s1, R1, r1, m1⟩⟩) fun v s1 ⟨x', H1, I1, rv, eh1, x, s1, R1, r1, m1⟩ => ?_
  obtain ⟨H2, I2, s2, R2, r2⟩ := ghost I1 R1 (nw eh) n x x' r1
  exact ⟨x', H2, I2, rv, k _ H2 _ _ (s1.trans s2) R2 r2 m1⟩

/-! ### fields -/
def putE (f : Str) (v : EV) : List (Str × EV) → List (Str × EV)
  | [] => [(f, v)]
  | (g, x) :: r => if g = f then (g, v) :: r else (g, x) :: putE f v r
theorem RpF.put {K mg Hd} {eh : Eh} {H : Hp} {f : Str} {y : EV} {v : V} (q : Rp K mg Hd eh H y v) : ∀ {fs : List (Str × EV)} {us : List (Str × V)}, RpF K mg Hd eh H fs us → RpF K mg Hd eh H (putE f y fs) (putF f v us)
  | [], _, h => by cases h; exact ⟨v, [], rfl, q, rfl⟩
  | (g, x) :: r, _, ⟨w, r', e, h, t⟩ => by
    subst e
    unfold putE putF
    by_cases hg : g = f
    · rw [if_pos hg, if_pos hg]; exact ⟨v, _, rfl, q, t⟩
    · rw [if_neg hg, if_neg hg]; exact ⟨w, _, rfl, h, RpF.put q t⟩
theorem putF_self {f : Str} {v : V} : ∀ {us : List (Str × V)}, us.lookup f = some v → putF f v us = us
  | [], h => by simp at h
  | (g, x) :: r, h => by
    unfold putF
    by_cases hg : g = f
    · subst hg; simp at h; subst h; simp
    · rw [if_neg hg]
      have hb : (f == g) = false := beq_eq_false_iff_ne.mpr (Ne.symm hg)
      simp only [List.lookup_cons, hb] at h
      rw [putF_self h]
def mFld (cn f : Str) (ma : ME) : ME := fun xc es eh q => ma xc es eh fun x eh1 => ∃ fs v, insE eh1 x = some (cn, fs) ∧ fs.lookup f = some v ∧ q v eh1
theorem re_fld {cn f : Str} {C : Addr} (hC : X.mg cn = some (.ref C)) (c : Cls X.K C) (n : NoAttr X.K C f) (he : PE X e (U X.K X.mg E ma)) (hb : attributeBase e f X.env (eval e X.env) = eval e X.env := by rfl) : PE X (.Attribute e f pos) (U X.K X.mg E (mFld cn f ma)) :=
  PE.imp (pe_fld he hb) fun σ H Q ⟨Hd, es, eh, xc, q, R, xo, m, k⟩ => ⟨Hd, es, eh, xc, _, R, xo, m, fun eh1 H1 x v s1 R1 r1 ⟨fs, y, hi, hl, m1⟩ => by
    obtain ⟨a, c', dx, us, rfl, hc, h, t⟩ := ins_of R1 r1 hi
    rw [hC] at hc; cases hc
    obtain ⟨w, hw, rw'⟩ := t.lookup hl
    exact ⟨a, C, dx, us, w, rfl, h, c, n, hw, k eh1 H1 y w s1 R1 rw' m1⟩⟩
def sFldE (cn f : Str) (ma mv : ME) : MS := fun xc d es eh => mv xc es eh fun y eh1 => ma xc es eh1 fun x eh2 => ∃ a fs, x = .ref a ∧ eh2 a = some (.ins cn fs) ∧ fs.length < 1000 ∧ d.nx es (eupd eh2 a (some (.ins cn (putE f y fs))))
theorem rs_fld {cn f : Str} {C : Addr} (hC : X.mg cn = some (.ref C)) (c : Cls X.K C) (n : NoAttr X.K C f) (ha : PE X o (U X.K X.mg E ma)) (hv : PE X e (U X.K X.mg E mv)) (hs : swapsWith e (some (.Attribute o f pos')) pos.line X.env = pure false := by rfl) :
    PS X (.Assign [.Attribute o f pos'] e pos) (US X.K X.mg E (sFldE cn f ma mv)) :=
  PS.imp (ps_fld ha hv hs) fun D σ H ⟨Hd, es, eh, xc, d, R, xo, m, k1, k2, k3, k4⟩ => ⟨Hd, es, eh, xc, _, R, xo, m, fun eh1 H1 y v s1 R1 r1 m1 => ⟨Hd, es, eh1, xc, _, R.step s1 R1, xo.step s1, m1, fun eh2 H2 x w s2 R2 r2 ⟨a, fs, e1, e2, hl, m2⟩ => by
    subst e1
    cases r2
    obtain ⟨c', dx, us, hc, h, t⟩ := R2.ob a _ e2
    rw [hC] at hc; cases hc
    have st : Step eh2 H2 (eupd eh2 a (some (.ins cn (putE f y fs)))) (upd H2 a (.ins C dx (putF f v us))) := .write R2 e2
    refine ⟨a, C, dx, us, rfl, h, c, n, by rw [← t.length]; exact hl, k1 _ _ _ _ (s1.trans (s2.trans st)) ((R.step (s1.trans s2) R2).step st (.write R2 e2 ⟨C, dx, _, hC, upd_same, (t.step st).put ((r1.step s2).step st)⟩)) m2⟩⟩⟩
/-- the dict (or list) that a field of the object in slot i holds is frozen -/
def sFzF (i : Nat) (cn f : Str) (n : Nat) (ms : MS) : MS := fun xc d es eh => ∃ a fs p, es[i]? = some (some (.ref a)) ∧ eh a = some (.ins cn fs) ∧ fs.lookup f = some (.ref p) ∧ p ≠ a ∧
  ms xc d es (eupd (drE (fun b => b == p) eh) a (some (.ins cn (putE f (fz (fun b => b == p) eh n (.ref p)) fs))))
theorem rs_fzF {i : Nat} {cn f : Str} {n : Nat} (h : PSs X ss (US X.K X.mg E ms)) : PSs X ss (US X.K X.mg E (sFzF i cn f n ms)) := by
  refine ⟨fun pins s σ H D I ⟨Hd, es, eh, xc, d, R, xo, ⟨a, fs, p, ei, ea, hl, hp, m⟩, k1, k2, k3, k4⟩ => ?_⟩
  obtain ⟨H', I', st, R', r'⟩ := ghost I R.obj (fun b => b == p) n (.ref p) (.ref p) rfl
  have ea' : drE (fun b => b == p) eh a = some (.ins cn fs) := by
    unfold drE
    have : (a == p) = false := beq_eq_false_iff_ne.mpr hp.symm
    simp only [this, Bool.false_eq_true, if_false]; exact ea
  obtain ⟨C, dx, us, hc, hh, t⟩ := R'.ob a _ ea'
  have eU : upd H' a (.ins C dx us) = H' := by
    funext b; unfold upd; split
    · rename_i z; rw [z, hh]
    · rfl
  have st2 : Step (drE (fun b => b == p) eh) H' (eupd (drE (fun b => b == p) eh) a (some (.ins cn (putE f (fz (fun b => b == p) eh n (.ref p)) fs)))) H' := by
    have z : Step (drE (fun b => b == p) eh) H' (eupd (drE (fun b => b == p) eh) a (some (.ins cn (putE f (fz (fun b => b == p) eh n (.ref p)) fs)))) (upd H' a (.ins C dx us)) := .write R' ea'
    rw [eU] at z; exact z
  have lk : us.lookup f = some (.ref p) := by
    obtain ⟨w, hw, rw'⟩ := t.lookup hl
    rw [hw]; cases rw'; rfl
  have R2 : Rh X.K X.mg Hd (eupd (drE (fun b => b == p) eh) a (some (.ins cn (putE f (fz (fun b => b == p) eh n (.ref p)) fs)))) H' := by
    have z := Rh.write (o := .ins C dx us) (eo := .ins cn (putE f (fz (fun b => b == p) eh n (.ref p)) fs)) R' ea' (by
      rw [eU]
      refine ⟨C, dx, us, hc, hh, ?_⟩
      have := (t.step st2).put (f := f) (r'.step st2)
      rw [putF_self lk] at this
      exact this)
    rw [eU] at z; exact z
  have s2 := st.trans st2
  exact h.run pins s σ H' D I' ⟨Hd, es, _, xc, d, R.step s2 R2, xo.step s2, m, fun es2 eh2 σ2 H2 s3 => k1 es2 eh2 σ2 H2 (s2.trans s3), fun eh2 H2 x v s3 => k2 eh2 H2 x v (s2.trans s3), fun es2 eh2 σ2 H2 s3 => k3 es2 eh2 σ2 H2 (s2.trans s3), fun es2 eh2 σ2 H2 s3 => k4 es2 eh2 σ2 H2 (s2.trans s3)⟩

/-! ### dicts -/
def putKE (kvs : List (Key × EV)) (k : Key) (v : EV) : List (Key × EV) :=
  if (kvs.any fun kv => decide (kv.1 = k)) = true then kvs.map (fun kv => if kv.1 = k then (kv.1, v) else kv) else kvs ++ [(k, v)]
theorem RpK.any {K mg Hd} {eh : Eh} {H : Hp} {k : Key} : ∀ {xs : List (Key × EV)} {us : List (Key × V)}, RpK K mg Hd eh H xs us → (us.any fun kv => decide (kv.1 = k)) = (xs.any fun kv => decide (kv.1 = k))
  | [], _, h => by cases h; rfl
  | (_, _) :: _, _, ⟨_, _, e, _, t⟩ => by subst e; simp only [List.any_cons, RpK.any t]
theorem RpK.sets {K mg Hd} {eh : Eh} {H : Hp} {k : Key} {x : EV} {v : V} (q : Rp K mg Hd eh H x v) : ∀ {xs : List (Key × EV)} {us : List (Key × V)}, RpK K mg Hd eh H xs us → RpK K mg Hd eh H (xs.map fun kv => if kv.1 = k then (kv.1, x) else kv) (us.map fun kv => if kv.1 = k then (kv.1, v) else kv)
  | [], _, h => by cases h; rfl
  | (k', y) :: xs, _, ⟨w, r, e, h, t⟩ => by
    subst e
    simp only [List.map_cons]
    by_cases hk : k' = k
    · rw [if_pos hk, if_pos hk]; exact ⟨v, _, rfl, q, RpK.sets q t⟩
    · rw [if_neg hk, if_neg hk]; exact ⟨w, _, rfl, h, RpK.sets q t⟩
theorem RpK.app {K mg Hd} {eh : Eh} {H : Hp} {k : Key} {x : EV} {v : V} (q : Rp K mg Hd eh H x v) : ∀ {xs : List (Key × EV)} {us : List (Key × V)}, RpK K mg Hd eh H xs us → RpK K mg Hd eh H (xs ++ [(k, x)]) (us ++ [(k, v)])
  | [], _, h => by cases h; exact ⟨v, [], rfl, q, rfl⟩
  | (k', y) :: xs, _, ⟨w, r, e, h, t⟩ => by subst e; exact ⟨w, _, rfl, h, RpK.app q t⟩
theorem RpK.put {K mg Hd} {eh : Eh} {H : Hp} {k : Key} {x : EV} {v : V} (q : Rp K mg Hd eh H x v) {xs : List (Key × EV)} {us : List (Key × V)} (h : RpK K mg Hd eh H xs us) : RpK K mg Hd eh H (putKE xs k x) (putK us k v) := by
  unfold putKE putK
  rw [h.any]
  split
  · exact h.sets q
  · exact h.app q
def sDPutE (md mk mv : ME) : MS := fun xc d es eh => mv xc es eh fun v eh1 => md xc es eh1 fun x eh2 => mk xc es eh2 fun y eh3 => ∃ a kvs k, x = .ref a ∧ eh3 a = some (.dct kvs) ∧ keyE y = some k ∧ kvs.length < sizeLine ∧ d.nx es (eupd eh3 a (some (.dct (putKE kvs k v))))
theorem rs_dput {k : Nat} (hr : RoomG k X.A) (ho : PE X o (U X.K X.mg E ma)) (hi : PE X c (U X.K X.mg E mb)) (hv : PE X e (U X.K X.mg E mv)) (hs : swapsWith e (some (.Subscript o c pos')) pos.line X.env = pure false := by rfl) :
    PS X (.Assign [.Subscript o c pos'] e pos) (US X.K X.mg E (sDPutE ma mb mv)) :=
  PS.imp (ps_dput (by have := hr.units; omega) ho hi hv hs) fun D σ H ⟨Hd, es, eh, xc, d, R, xo, m, k1, k2, k3, k4⟩ => ⟨Hd, es, eh, xc, _, R, xo, m, fun eh1 H1 v v1 s1 R1 r1 m1 => ⟨Hd, es, eh1, xc, _, R.step s1 R1, xo.step s1, m1, fun eh2 H2 x x2 s2 R2 r2 m2 =>
    ⟨Hd, es, eh2, xc, _, (R.step s1 R1).step s2 R2, (xo.step s1).step s2, m2, fun eh3 H3 y y3 s3 R3 r3 ⟨a, kvs, k, e1, e2, e3, hl, m3⟩ => by
      subst e1
      cases r2
      obtain ⟨us, h, t⟩ := R3.ob a _ e2
      have st : Step eh3 H3 (eupd eh3 a (some (.dct (putKE kvs k v)))) (upd H3 a (.dK (putK us k v1))) := .write R3 e2
      refine ⟨a, _, rfl, by rw [keyE_of r3 e3]; exact .k h (by rw [← t.length]; exact hl), k1 _ _ _ _ (s1.trans (s2.trans (s3.trans st))) ((R.step (s1.trans (s2.trans s3)) R3).step st (.write R3 e2 ⟨_, upd_same, (t.step st).put ((r1.step (s2.trans s3)).step st)⟩)) m3⟩⟩⟩⟩
def mDNew : ME := fun _ _ eh q => ∀ p, eh p = none → q (.ref p) (eupd eh p (some (.dct [])))
theorem re_dnew : PE X (.Dict [] [] pos) (U X.K X.mg E mDNew) :=
  PE.imp pe_dnewK fun σ H Q ⟨Hd, es, eh, xc, q, R, xo, m, k⟩ p hp => k _ _ (.ref p) (.ref p) (.new hp) (R.obj.new (eo := .dct []) hp ⟨[], upd_same, rfl⟩) rfl (m p (R.obj.fresh hp))

/-! ### parallel assignment -/
def sPar (i j : Nat) (t : MA) : MS := fun xc d es eh => t xc es eh fun xs eh1 => ∃ x y, xs = [x, y] ∧ d.nx ((es.set i (some x)).set j (some y)) eh1
theorem rs_par {i j : Nat} {x y : Str} {a b : Expr} {t : MA} {px py pt : Pos} {kt k2 pt2} (hc : X.calm = true) (hN : X.N.Nodup) (ha : PA X [a, b] (UA X.K X.mg E t)) (hi : X.N[i]? = some x := by rfl) (hj : X.N[j]? = some y := by rfl) (hij : i ≠ j := by decide)
    (hx : X.env.scope.names.lookup x = some .local := by rfl) (hy : X.env.scope.names.lookup y = some .local := by rfl)
    (hw : swappedStores [.Tuple [.Name x px, .Name y py] kt pt] (.Tuple [a, b] k2 pt2) X.env = pure (some [x, y]) := by rfl)
    (hs : swapsWithSole [.Tuple [.Name x px, .Name y py] kt pt] (.Tuple [a, b] k2 pt2) pos.line X.env = pure false := by rfl) :
    PS X (.Assign [.Tuple [.Name x px, .Name y py] kt pt] (.Tuple [a, b] k2 pt2) pos) (US X.K X.mg E (sPar i j t)) :=
  PS.imp (ps_par hc hN hi hj hij hx hy ha hw hs) fun D σ H ⟨Hd, es, eh, xc, d, R, xo, m, k1, k2, k3, k4⟩ => ⟨Hd, es, eh, xc, _, R, xo, m, fun eh1 H1 xs vs s1 R1 r1 ⟨x, y, e, m1⟩ => by
    subst e
    obtain ⟨v, _, rfl, r, ⟨w, _, rfl, r', e⟩⟩ := r1
    cases e
    exact ⟨v, w, rfl, k1 _ _ _ _ s1 (((R.step s1 R1).set r).set r') m1⟩⟩
def sPar3 (i j l : Nat) (t : MA) : MS := fun xc d es eh => t xc es eh fun xs eh1 => ∃ x y z, xs = [x, y, z] ∧ d.nx (((es.set i (some x)).set j (some y)).set l (some z)) eh1
theorem rs_par3 {i j l : Nat} {x y z : Str} {a b c : Expr} {t : MA} {px py pz pt : Pos} {kt k2 pt2} (hc : X.calm = true) (hN : X.N.Nodup) (ha : PA X [a, b, c] (UA X.K X.mg E t)) (hi : X.N[i]? = some x := by rfl) (hj : X.N[j]? = some y := by rfl) (hl : X.N[l]? = some z := by rfl) (hij : i ≠ j := by decide) (hil : i ≠ l := by decide) (hjl : j ≠ l := by decide)
    (hx : X.env.scope.names.lookup x = some .local := by rfl) (hy : X.env.scope.names.lookup y = some .local := by rfl) (hz : X.env.scope.names.lookup z = some .local := by rfl)
    (hw : swappedStores [.Tuple [.Name x px, .Name y py, .Name z pz] kt pt] (.Tuple [a, b, c] k2 pt2) X.env = pure (some [x, y, z]) := by rfl)
    (hs : swapsWithSole [.Tuple [.Name x px, .Name y py, .Name z pz] kt pt] (.Tuple [a, b, c] k2 pt2) pos.line X.env = pure false := by rfl) :
    PS X (.Assign [.Tuple [.Name x px, .Name y py, .Name z pz] kt pt] (.Tuple [a, b, c] k2 pt2) pos) (US X.K X.mg E (sPar3 i j l t)) :=
  PS.imp (ps_par3 hc hN hi hj hl hij hil hjl hx hy hz ha hw hs) fun D σ H ⟨Hd, es, eh, xc, d, R, xo, m, k1, k2, k3, k4⟩ => ⟨Hd, es, eh, xc, _, R, xo, m, fun eh1 H1 xs vs s1 R1 r1 ⟨x, y, z, e, m1⟩ => by
    subst e
    obtain ⟨v, _, rfl, r, ⟨w, _, rfl, r', ⟨u, _, rfl, r'', e⟩⟩⟩ := r1
    cases e
    exact ⟨v, w, u, rfl, k1 _ _ _ _ s1 ((((R.step s1 R1).set r).set r').set r'') m1⟩⟩

/-! ### lists, items stored -/
def sLPutE (md mk mv : ME) : MS := fun xc d es eh => mv xc es eh fun v eh1 => md xc es eh1 fun x eh2 => mk xc es eh2 fun y eh3 => ∃ a xs i, x = .ref a ∧ eh3 a = some (.lst xs) ∧ y = .int i ∧ 0 ≤ i ∧ i.toNat < xs.length ∧ d.nx es (eupd eh3 a (some (.lst (xs.set i.toNat v))))
end

/-! ### instances -/
section
variable {X : Cx} {CX : CXT} {k np : Nat} {f C : Addr} {fd : FuncData} {ps : List Str} {F : FN} {dvs : List V} {ds : List Value} {dx : List EV} {E : XK} {x m : Str} {p pos apos : Pos} {e o : Expr} {es : List Expr} {ma : ME} {t tk : MA}
def mMake (cn : Str) (F : FN) (n : Nat) (dx : List EV) (t : MA) : ME := fun xc es eh q => t xc es eh fun xs eh1 => (xs ++ dx).length + 1 = n ∧ ∀ p, eh1 p = none → F xc (.ref p :: (xs ++ dx)) (eupd eh1 p (some (.ins cn []))) fun v eh2 => v = .non ∧ q (.ref p) eh2
theorem make_lift {cn : Str} (hC : X.mg cn = some (.ref C)) (hdx : ∀ Hd eh H, RpL X.K X.mg Hd eh H dx dvs) : ∀ σ H Q, U X.K X.mg E (mMake cn F np dx t) σ H Q → tMake C (spOf X.K X.mg np F) dvs E (UA X.K X.mg E t) σ H Q := fun σ H Q ⟨Hd, es, eh, xc, q, R, xo, m, kk⟩ =>
  ⟨Hd, es, eh, xc, _, R, xo, m, fun eh1 H1 xs vs s1 R1 r1 ⟨hl, m1⟩ x dx' hx hdx' hne => by
    have st1 : Step eh1 H1 eh1 (upd H1 dx' (.own x)) := .newF hdx'
    have R1' := R1.newF (o := .own x) hdx'
    have hx' : upd H1 dx' (.own x) x = none := by rw [upd_ne hne.symm]; exact hx
    have st2 : Step eh1 (upd H1 dx' (.own x)) (eupd eh1 x (some (.ins cn []))) (upd (upd H1 dx' (.own x)) x (.ins C dx' [])) := .new hx'
    have st := st1.trans st2
    exact ⟨Hd, _, .ref x :: (xs ++ dx), xc, _, by rw [← hl]; exact (congrArg Nat.succ (r1.append (hdx Hd eh1 H1)).length).symm, R1'.new (eo := .ins cn []) hx' ⟨C, dx', [], hC, upd_same, rfl⟩, .cons rfl ((r1.append (hdx Hd eh1 H1)).step st), (xo.step s1).step st, m1 x (R1.fresh hx), fun eh2 H2 z w s2 R2 r2 ⟨e1, m2⟩ => ⟨by subst e1; exact r2, kk eh2 H2 (.ref x) (.ref x) (s1.trans (st.trans s2)) R2 rfl m2⟩⟩⟩
theorem re_make {cn : Str} (M : Mk X.K C f) (hC : X.mg cn = some (.ref C)) (G : FnG X.prog X.w X.K X.mg X.base CX k f fd ps (spOf X.K X.mg np F)) (hr : RoomG (k + 1) X.A) (hg : Gl X cn) (hb : Binds X.K fd ps ds) (hd : Vals dvs ds) (hdx : ∀ Hd eh H, RpL X.K X.mg Hd eh H dx dvs) (hx : Passes CX X E)
    (ha : PA X (e :: es) (UA X.K X.mg E t)) (hdb : (cn == ("__debug__" : Str)) = false := by decide) (he : starEach (e :: es) X.env = (false, eval e X.env) :: starEach es X.env := by rfl) (hpl : (backTo pos (starEach es X.env)).any (·.1) = false := by rfl) :
    PE X (.Call (.Name cn p) (e :: es) [] pos) (U X.K X.mg E (mMake cn F np dx t)) :=
  PE.imp (G.make_ M hr hg hC hb hd (Passes.at hx) ha hdb he hpl) (make_lift hC hdx)
/-- with keywords: gE puts the values in the parameters' order -/
def mMakeN (cn : Str) (F : FN) (N n m : Nat) (gE : List EV → List EV → List EV) (t tk : MA) : ME := fun xc es eh q => t xc es eh fun xs eh1 => tk xc es eh1 fun zs eh2 => xs.length = n ∧ zs.length = m ∧
  ∀ p, eh2 p = none → (gE (.ref p :: xs) zs).length = N ∧ F xc (gE (.ref p :: xs) zs) (eupd eh2 p (some (.ins cn []))) fun v eh3 => v = .non ∧ q (.ref p) eh3
structure GOk (K : PySem.W.Frag) (mg : Str → Option Value) (gE : List EV → List EV → List EV) (gV : List V → List V → List V) : Prop where
  rel : ∀ {Hd eh H} {xs zs : List EV} {vs ws : List V}, RpL K mg Hd eh H xs vs → RpL K mg Hd eh H zs ws → RpL K mg Hd eh H (gE xs zs) (gV vs ws)
def UK := UA
theorem rk_nil : PK X [] (UA X.K X.mg E aNil) := ⟨fun pos pins s σ H Q I h => by
  obtain ⟨Hd, es, eh, xc, q, R, xo, m, k⟩ := h
  exact wpAny_evalAll_nil ⟨[], H, I, .nil, k eh H [] [] .refl R.obj rfl m⟩⟩
theorem rk_cons {nm : Option Str} {kpos : Pos} {kws : List Keyword} {mr : MA} (ha : PE X e (U X.K X.mg E ma)) (hr : PK X kws (UA X.K X.mg E mr)) : PK X (⟨nm, e, kpos⟩ :: kws) (UA X.K X.mg E (aCons ma mr)) :=
  ⟨fun pos pins s σ H Q I ⟨Hd, es, eh, xc, q, R, xo, m, k⟩ => (pk_cons ha hr).run pos pins s σ H Q I ⟨Hd, es, eh, xc, _, R, xo, m, fun eh1 H1 x v s1 R1 r1 m1 =>
    ⟨Hd, es, eh1, xc, _, R.step s1 R1, xo.step s1, m1, fun eh2 H2 xs vs s2 R2 r2 m2 => k eh2 H2 _ _ (s1.trans s2) R2 (.cons (r1.step s2) r2) m2⟩⟩⟩
theorem re_makeN {cn : Str} {n : Nat} {ks : List Str} {kws : List Keyword} {g : List Value → List Value → List Value} {gV : List V → List V → List V} {gE : List EV → List EV → List EV} (M : Mk X.K C f) (hC : X.mg cn = some (.ref C)) (G : FnG X.prog X.w X.K X.mg X.base CX k f fd ps (spOf X.K X.mg np F)) (hr : RoomG (k + 1) X.A) (hg : Gl X cn) (hb : KBn X.K fd ps (n + 1) ks g gV) (hG : GOk X.K X.mg gE gV) (hx : Passes CX X E)
    (ha : PA X (e :: es) (UA X.K X.mg E t)) (hkw : PK X kws (UA X.K X.mg E tk)) (hall : (backToKw pos (keywordEach kws X.env)).all (·.1.isSome) = true := by rfl) (hks : (backToKw pos (keywordEach kws X.env)).filterMap (·.1) = ks := by rfl)
    (hdb : (cn == ("__debug__" : Str)) = false := by decide) (he : starEach (e :: es) X.env = (false, eval e X.env) :: starEach es X.env := by rfl)
    (hpl : ((backTo pos (starEach (e :: es) X.env)).any (·.1) || (backToKw pos (keywordEach kws X.env)).any (·.1.isNone)) = false := by rfl) :
    PE X (.Call (.Name cn p) (e :: es) kws pos) (U X.K X.mg E (mMakeN cn F np n ks.length gE t tk)) :=
  PE.imp (G.makek_ M hr hg hC hb (Passes.at hx) ha hkw hall hks hdb he hpl) fun σ H Q ⟨Hd, es, eh, xc, q, R, xo, m, kk⟩ =>
    ⟨Hd, es, eh, xc, _, R, xo, m, fun eh1 H1 xs vs s1 R1 r1 m1 => ⟨Hd, es, eh1, xc, _, R.step s1 R1, xo.step s1, m1, fun eh2 H2 zs ws s2 R2 r2 ⟨h1, h2, m2⟩ => ⟨by rw [← h1]; exact r1.length.symm, by rw [← h2]; exact r2.length.symm, fun x dx' hx hdx' hne => by
      have st1 : Step eh2 H2 eh2 (upd H2 dx' (.own x)) := .newF hdx'
      have R1' := R2.newF (o := .own x) hdx'
      have hx' : upd H2 dx' (.own x) x = none := by rw [upd_ne hne.symm]; exact hx
      have st2 : Step eh2 (upd H2 dx' (.own x)) (eupd eh2 x (some (.ins cn []))) (upd (upd H2 dx' (.own x)) x (.ins C dx' [])) := .new hx'
      have st := st1.trans st2
      obtain ⟨hl, m3⟩ := m2 x (R2.fresh hx)
      have rr := hG.rel (xs := .ref x :: xs) (vs := .ref x :: vs) (.cons rfl ((r1.step s2).step st)) (r2.step st)
      exact ⟨Hd, _, _, xc, _, by rw [← hl]; exact rr.length.symm, R1'.new (eo := .ins cn []) hx' ⟨C, dx', [], hC, upd_same, rfl⟩, rr, (xo.step (s1.trans s2)).step st, m3, fun eh3 H3 z w s3 R3 r3 ⟨e1, m4⟩ => ⟨by subst e1; exact r3, kk eh3 H3 (.ref x) (.ref x) (s1.trans (s2.trans (st.trans s3))) R3 rfl m4⟩⟩⟩⟩⟩
/-! ### properties -/
def mProp (cn : Str) (F : FN) (n : Nat) (dx : List EV) (ma : ME) : ME := fun xc es eh q => ma xc es eh fun x eh1 => ∃ fs, insE eh1 x = some (cn, fs) ∧ dx.length + 1 = n ∧ F xc (x :: dx) eh1 q
theorem re_prop {cn : Str} {pr : Addr} (hC : X.mg cn = some (.ref C)) (c : Cls X.K C) (he : PE X e (U X.K X.mg E ma)) (hp : PropOf X.K C m pr f) (G : FnG X.prog X.w X.K X.mg X.base CX k f fd ps (spOf X.K X.mg np F)) (hr : RoomG (k + 1) X.A) (hb : Binds X.K fd ps ds) (hd : Vals dvs ds) (hdx : ∀ Hd eh H, RpL X.K X.mg Hd eh H dx dvs) (hx : Passes CX X.nox E)
    (hab : attributeBase e m X.env (eval e X.env) = eval e X.env := by rfl) : PE X (.Attribute e m pos) (U X.K X.mg E (mProp cn F np dx ma)) :=
  PE.imp (G.prop_ he c hp hr hb hd (Passes.at hx) hab) fun σ H Q ⟨Hd, es, eh, xc, q, R, xo, mm, kk⟩ => ⟨Hd, es, eh, xc, _, R, xo, mm, fun eh1 H1 x v s1 R1 r1 ⟨fs, hi, hl, m1⟩ => by
    obtain ⟨a, c', dx', us, rfl, hc, h, t⟩ := ins_of R1 r1 hi
    rw [hC] at hc; cases hc
    exact ⟨a, dx', us, rfl, h, Hd, eh1, x :: dx, xc, q, by rw [← hl]; exact (congrArg Nat.succ (hdx Hd eh1 H1).length).symm, R1, .cons r1 (hdx Hd eh1 H1), xo.step s1, m1, fun eh2 H2 z w s2 => kk eh2 H2 z w (s1.trans s2)⟩⟩
/-! ### keywords, stars -/
def mCallN (F : FN) (N n m : Nat) (gE : List EV → List EV → List EV) (t tk : MA) : ME := fun xc es eh q => t xc es eh fun xs eh1 => tk xc es eh1 fun zs eh2 => xs.length = n ∧ zs.length = m ∧ (gE xs zs).length = N ∧ F xc (gE xs zs) eh2 q
theorem callN_lift {n m : Nat} {gV : List V → List V → List V} {gE : List EV → List EV → List EV} (hG : GOk X.K X.mg gE gV) : ∀ σ H Q, U X.K X.mg E (mCallN F np n m gE t tk) σ H Q → tCallN n m (spOf X.K X.mg np F) gV E (UA X.K X.mg E t) (UA X.K X.mg E tk) σ H Q :=
  fun σ H Q ⟨Hd, es, eh, xc, q, R, xo, m, kk⟩ =>
    ⟨Hd, es, eh, xc, _, R, xo, m, fun eh1 H1 xs vs s1 R1 r1 m1 => ⟨Hd, es, eh1, xc, _, R.step s1 R1, xo.step s1, m1, fun eh2 H2 zs ws s2 R2 r2 ⟨h1, h2, hl, m2⟩ => ⟨by rw [← h1]; exact r1.length.symm, by rw [← h2]; exact r2.length.symm,
      Hd, _, _, xc, _, by rw [← hl]; exact (hG.rel (r1.step s2) r2).length.symm, R2, hG.rel (r1.step s2) r2, xo.step (s1.trans s2), m2, fun eh3 H3 z w s3 => kk eh3 H3 z w (s1.trans (s2.trans s3))⟩⟩⟩
theorem re_callN {n : Nat} {ks : List Str} {kws : List Keyword} {g : List Value → List Value → List Value} {gV : List V → List V → List V} {gE : List EV → List EV → List EV} (G : FnG X.prog X.w X.K X.mg X.base CX k f fd ps (spOf X.K X.mg np F)) (hr : RoomG k X.A) (hg : Gl X x) (hm : X.mg x = some (.ref f)) (hk : PySem.W.keepIn X.K (.ref f) = true) (hb : KBn X.K fd ps n ks g gV) (hG : GOk X.K X.mg gE gV) (hx : Passes CX X E)
    (ha : PA X (e :: es) (UA X.K X.mg E t)) (hkw : PK X kws (UA X.K X.mg E tk)) (hall : (backToKw pos (keywordEach kws X.env)).all (·.1.isSome) = true := by rfl) (hks : (backToKw pos (keywordEach kws X.env)).filterMap (·.1) = ks := by rfl)
    (hdb : (x == ("__debug__" : Str)) = false := by decide) (he : starEach (e :: es) X.env = (false, eval e X.env) :: starEach es X.env := by rfl)
    (hpl : ((backTo pos (starEach (e :: es) X.env)).any (·.1) || (backToKw pos (keywordEach kws X.env)).any (·.1.isNone)) = false := by rfl) :
    PE X (.Call (.Name x p) (e :: es) kws pos) (U X.K X.mg E (mCallN F np n ks.length gE t tk)) :=
  PE.imp (G.callk_ hr hg hm hk hb (Passes.at hx) ha hkw hall hks hdb he hpl) (callN_lift hG)
/-- keywords alone -/
theorem re_callN0 {ks : List Str} {kws : List Keyword} {g : List Value → List Value → List Value} {gV : List V → List V → List V} {gE : List EV → List EV → List EV} (G : FnG X.prog X.w X.K X.mg X.base CX k f fd ps (spOf X.K X.mg np F)) (hr : RoomG k X.A) (hg : Gl X x) (hm : X.mg x = some (.ref f)) (hk : PySem.W.keepIn X.K (.ref f) = true) (hb : KBn X.K fd ps 0 ks g gV) (hG : GOk X.K X.mg gE gV) (hx : Passes CX X E)
    (hkw : PK X kws (UA X.K X.mg E tk)) (hall : (backToKw pos (keywordEach kws X.env)).all (·.1.isSome) = true := by rfl) (hks : (backToKw pos (keywordEach kws X.env)).filterMap (·.1) = ks := by rfl)
    (hdb : (x == ("__debug__" : Str)) = false := by decide)
    (hpl : ((backTo pos (starEach [] X.env)).any (·.1) || (backToKw pos (keywordEach kws X.env)).any (·.1.isNone)) = false := by rfl) :
    PE X (.Call (.Name x p) [] kws pos) (U X.K X.mg E (mCallN F np 0 ks.length gE aNil tk)) := by
  refine PE.imp (G.callk0_ hr hg hm hk hb (Passes.at hx) hkw hall hks hdb hpl) fun σ H Q ⟨Hd, es, eh, xc, q, R, xo, m, kk⟩ => ?_
  exact ⟨Hd, es, eh, xc, _, R, xo, m, fun eh2 H2 zs ws s2 R2 r2 ⟨h1, h2, hl, m2⟩ => ⟨rfl, by rw [← h2]; exact r2.length.symm,
      Hd, _, _, xc, _, by rw [← hl]; exact (hG.rel .nil r2).length.symm, R2, hG.rel .nil r2, xo.step s2, m2, fun eh3 H3 z w s3 => kk eh3 H3 z w (s2.trans s3)⟩⟩
def aStar (ma : ME) (r : MA) : MA := fun xc es eh q => ma xc es eh fun x eh1 => ∃ ys, seqE eh1 x = some ys ∧ r xc es eh1 fun xs eh2 => q (ys ++ xs) eh2
theorem ra_star {mr : MA} (ha : PE X e (U X.K X.mg E ma)) (hr : PA X es (UA X.K X.mg E mr)) (hs : starEach (.Starred e p :: es) X.env = (true, eval e X.env) :: starEach es X.env := by rfl) : PA X (.Starred e p :: es) (UA X.K X.mg E (aStar ma mr)) :=
  PA.imp (StX.pa_star ha hr hs) fun σ H Q ⟨Hd, es, eh, xc, q, R, xo, m, k⟩ => ⟨Hd, es, eh, xc, _, R, xo, m, fun eh1 H1 x v s1 R1 r1 ⟨ys, hy, m1⟩ => by
    obtain ⟨a, vs, rfl, h, t⟩ := seq_of R1 r1 hy
    exact ⟨a, vs, rfl, h.symm, Hd, es, eh1, xc, _, R.step s1 R1, xo.step s1, m1, fun eh2 H2 xs vs' s2 R2 r2 m2 => k eh2 H2 _ _ (s1.trans s2) R2 ((t.step s2).append r2) m2⟩⟩
theorem re_callS (G : FnG X.prog X.w X.K X.mg X.base CX k f fd ps (spOf X.K X.mg np F)) (hr : RoomG k X.A) (hg : Gl X x) (hm : X.mg x = some (.ref f)) (hk : PySem.W.keepIn X.K (.ref f) = true) (hb : Binds X.K fd ps ds) (hd : Vals dvs ds) (hdx : ∀ Hd eh H, RpL X.K X.mg Hd eh H dx dvs) (hx : Passes CX X E)
    (ha : PA X (e :: es) (UA X.K X.mg E t)) (hdb : (x == ("__debug__" : Str)) = false := by decide) (he : starEach (e :: es) X.env = (false, eval e X.env) :: starEach es X.env := by rfl) (hst : (backTo pos (starEach es X.env)).any (·.1) = true := by rfl) :
    PE X (.Call (.Name x p) (e :: es) [] pos) (U X.K X.mg E (mCall F np dx t)) :=
  PE.imp (G.star_ hr hg hm hk hb hd (Passes.at hx) ha hdb he hst) (call_lift hdx)
end
end VM

/-! VM9: slices, items stored, lists of keys. -/
namespace VM
open PySem PySem.Spec PyProof.Rows L2
section
variable {X : Cx} {E : XK} {e o c : Expr} {ma mb mv : ME} {pos pos' : Pos}
theorem RpL.cut {K mg Hd} {eh : Eh} {H : Hp} {xs : List EV} {vs : List V} (r : RpL K mg Hd eh H xs vs) (lo hi : Option Int) : RpL K mg Hd eh H (cutE xs lo hi) (cutV vs lo hi) := by
  unfold cutE cutV
  rw [r.length]
  exact (r.drop _).take _
theorem cutE_whole {xs : List EV} {lo hi : Option Int} (h : HT.sIx xs.length 0 lo = 0 ∧ HT.sIx xs.length xs.length hi = xs.length) : cutE xs lo hi = xs := by
  unfold cutE
  rw [h.1, h.2]
  simp
theorem sl_any : SlR X (USl X.K X.mg oSlice) := by
  intro pins s σ H v w vl vu lo hi sl Q I rv hs pl pu ⟨Hd, eh, x, q, R, r, m, k⟩
  have lst : ∀ {a : Addr} {vs : List V} {xs : List EV}, v = .ref a → SqL X.K H a vs → RpL X.K X.mg Hd eh H xs vs → q (.lst (cutE xs lo hi)) eh →
      ∃ T id, typeLookup (.type T) "__getitem__" = pure (some (.builtin id)) ∧ s.TypeIs w T ∧ wpAny (model X.prog X.w) X.A (getItem w (.ref sl)) (EP X pins σ Q) X.xe s := fun {a vs xs} hv h t m =>
    sl_list pins s σ H v w vl vu lo hi sl Q I rv hs pl pu ⟨a, vs, hv, h, fun p hp => k eh _ (.lst (cutE xs lo hi)) (.ref p) (.newF hp) (R.newF hp) ⟨p, _, rfl, upd_same, ⟨R.fresh hp, R.notHid hp⟩, (t.cut lo hi).step (.newF hp)⟩ m⟩
  have rest : (∃ xs, seqE eh x = some xs ∧ q (.lst (cutE xs lo hi)) eh) → (∀ xs, x ≠ .tup xs) → ∃ T id, typeLookup (.type T) "__getitem__" = pure (some (.builtin id)) ∧ s.TypeIs w T ∧ wpAny (model X.prog X.w) X.A (getItem w (.ref sl)) (EP X pins σ Q) X.xe s := by
    clear m
    rintro ⟨xs, h, mm⟩ nt
    cases x with
    | lst ys => cases h; obtain ⟨a, vs, e, h, _, t⟩ := r; exact lst e (.inl (.inl h)) t mm
    | scr ns => cases h; obtain ⟨a, e, h⟩ := r; exact lst e h.sq (RpL.of_ints ns) mm
    | tup ys => exact absurd rfl (nt ys)
    | ref a =>
      simp only [seqE] at h
      cases e : eh a with
      | none => rw [e] at h; cases h
      | some o =>
        rw [e] at h
        cases o with
        | lst ys => cases h; obtain ⟨vs, h, t⟩ := R.ob a _ e; exact lst r (.inl (.inl h)) t mm
        | _ => cases h
    | _ => cases h
  unfold oSlice at m
  split at m
  · cases r
    exact sl_str pins s σ H _ w vl vu lo hi sl Q I rv hs pl pu ⟨_, rfl, m.1, k eh H (.str _) (.str _) .refl R rfl m.2⟩
  · rename_i xs
    obtain ⟨a, vs, e, h, t⟩ := r
    refine sl_tupA pins s σ H v w vl vu lo hi sl Q I rv hs pl pu ⟨a, vs, e, h, fun hw => ?_, fun _ p hp => k eh _ (.tup (cutE xs lo hi)) (.ref p) (.newF hp) (R.newF hp) ⟨p, _, rfl, .inl (.inl upd_same), (t.cut lo hi).step (.newF hp)⟩ m.2⟩
    refine k eh H (.tup (cutE xs lo hi)) (.ref a) .refl R ⟨a, vs, rfl, h, ?_⟩ m.2
    rw [cutE_whole (by rw [t.length]; exact hw)]; exact t
  · rename_i nstr ntup; exact rest m ntup
def sLPutN (md mk mv : ME) : MS := fun xc d es eh => mv xc es eh fun v eh1 => md xc es eh1 fun x eh2 => mk xc es eh2 fun y eh3 => ∃ a xs i j, x = .ref a ∧ eh3 a = some (.lst xs) ∧ y = .int i ∧ ixN xs.length i = some j ∧ d.nx es (eupd eh3 a (some (.lst (xs.set j v))))
theorem rs_lput (ho : PE X o (U X.K X.mg E ma)) (hi : PE X c (U X.K X.mg E mb)) (hv : PE X e (U X.K X.mg E mv)) (hs : swapsWithSole [.Subscript o c pos'] e pos.line X.env = pure false := by rfl) (hw : swappedStores [.Subscript o c pos'] e X.env = pure none := by rfl)
    (h1 : (assignEach [.Subscript o c pos'] X.env).map (·.2) = [assign (.Subscript o c pos') X.env] := by rfl)
    (has : ∀ v, assign (.Subscript o c pos') X.env v = (do
      let ov ← holding [v] (eval o X.env)
      let iv ← holding [v, ov] (eval c X.env)
      standAt pos'
      holding [v, ov, iv] (setItem ov iv v)
      release [v, ov, iv] []) := by intro _; rfl) :
    PS X (.Assign [.Subscript o c pos'] e pos) (US X.K X.mg E (sLPutN ma mb mv)) :=
  PS.imp (ps_asg hv (pg_sub ho hi set_list has) hs hw h1) fun D σ H ⟨Hd, es, eh, xc, d, R, xo, m, k1, k2, k3, k4⟩ => ⟨Hd, es, eh, xc, _, R, xo, m, fun eh1 H1 v v1 s1 R1 r1 m1 => ⟨Hd, es, eh1, xc, _, R.step s1 R1, xo.step s1, m1, fun eh2 H2 x x2 s2 R2 r2 m2 =>
    ⟨Hd, es, eh2, xc, _, (R.step s1 R1).step s2 R2, (xo.step s1).step s2, m2, fun eh3 H3 y y3 s3 R3 r3 ⟨a, xs, i, j, e1, e2, e3, hj, m3⟩ => by
      subst e1 e3
      cases r2
      cases r3
      obtain ⟨vs, h, t⟩ := R3.ob a _ e2
      have st : Step eh3 H3 (eupd eh3 a (some (.lst (xs.set j v)))) (upd H3 a (.lst (vs.set j v1))) := .write R3 e2
      exact ⟨a, vs, i, j, rfl, rfl, h, by rw [← t.length]; exact hj, k1 _ _ _ _ (s1.trans (s2.trans (s3.trans st))) ((R.step (s1.trans (s2.trans s3)) R3).step st (.write R3 e2 ⟨_, upd_same, (t.step st).set ((r1.step (s2.trans s3)).step st) j⟩)) m3⟩⟩⟩⟩
/-- values that match a dict's keys, place by place -/
theorem keys_rel {kvs : List (Key × V)} {ws : List (Key × Value)} (kv : KV kvs ws) : ∀ {us : List Value}, us.length = ws.length → (∀ (i : Nat) u, us[i]? = some u → ∃ k y, ws[i]? = some (k, y) ∧ keyIs k u = true) → Vals (kvs.map fun p => kV p.1) us := by
  unfold KV at kv
  induction kv with
  | nil => intro us hl _; cases us with
    | nil => exact .nil
    | cons => simp at hl
  | cons hd _ ih => intro us hl f; cases us with
    | nil => simp at hl
    | cons u us =>
      obtain ⟨k, y, e, hk⟩ := f 0 u rfl
      cases e
      exact .cons (by show RelV (kV _) u; rw [hd.1]; exact keyIs_rel hk) (ih (by simpa using hl) fun i w h => f (i + 1) w (by simpa using h))
/-- list(d) of a dict that is locked or not -/
theorem list_of_keys (hc : X.calm = true) : CallR X (.type "list") (fun vs H Q => ∃ d kvs, vs = [V.ref d] ∧ Rd H d (.dK kvs) ∧ ∀ l, H l = none → Q (.ref l) (upd H l (.lst (kvs.map fun p => kV p.1)))) :=
  fun pins s σ H vs us Q I r ⟨d, kvs, hv, hd, q⟩ => by
    subst hv
    obtain ⟨w, rfl, rw'⟩ := vals1 r
    cases rw'
    have ok := hd.ok I.hok
    obtain ⟨hz, hs, ws, kv, dof⟩ := ok
    have hlen : kvs.length = ws.length := Paired.length kv
    obtain ⟨n, at_⟩ := dof.dictAt
    have new : H s.heap.objs.size = none := I.hok.fresh (Nat.le_refl _)
    refine PySem.W.kdl_call (PySem.W.kdl_dict (knd := mixKind X.prog X.w) hs) (I.ok.hd hc) at_ (hlen ▸ hz) fun h1 t1 arr c1 kp1 got it1 => ⟨.ref s.heap.objs.size, _, I.laid (o := .lst (kvs.map fun p => kV p.1)) kp1 (Nat.le_refl _) ?_, rfl, q _ new⟩
    have vr : Vals (kvs.map fun p => kV p.1) arr.toList := keys_rel kv (by rw [Array.length_toList]; exact it1.1) fun i u h => it1.2 i u (by simpa using h)
    exact ⟨by simpa using hz, arr.toList, c1, vr, by simpa using got⟩
theorem rpL_keys {K mg Hd} {eh : Eh} {H : Hp} : ∀ {xs : List (Key × EV)} {us : List (Key × V)}, RpK K mg Hd eh H xs us → RpL K mg Hd eh H (xs.map fun p => keyV p.1) (us.map fun p => kV p.1)
  | [], _, h => by cases h; rfl
  | (k, _) :: _, _, ⟨v, r, e, _, t⟩ => by
    subst e
    refine .cons ?_ (rpL_keys t)
    cases k <;> rfl
def bListD : EOL := fun xs eh q => match xs with
  | [x] => ∃ kvs, dctE eh x = some kvs ∧ q (.lst (kvs.map fun p => keyV p.1)) eh
  | _ => False
theorem cb_listD (hc : X.calm = true) : CallR X (.type "list") (UL X.K X.mg bListD) := CallR.imp (list_of_keys hc) fun vs H Q ⟨Hd, eh, xs, q, R, rx, m, k⟩ => by
  unfold bListD at m
  split at m
  · obtain ⟨ys, hy, m⟩ := m
    obtain ⟨v, rfl, h⟩ := one_of rx
    obtain ⟨a, ws, rfl, hs, rr⟩ := dct_of R h hy
    exact ⟨a, ws, rfl, hs, fun l hl => k eh _ (.lst _) (.ref l) (.newF hl) (R.newF hl) ⟨l, _, rfl, upd_same, ⟨R.fresh hl, R.notHid hl⟩, (rpL_keys rr).step (.newF hl)⟩ m⟩
  · exact m.elim
end
end VM

/-! VMD: repr of data; xs[::-1]. -/
namespace VM
open PySem PySem.Spec PyProof.Rows L2
def isRf : EV → Bool
  | .tup _ => true
  | .lst _ => true
  | .ref _ => true
  | .scr _ => true
  | _ => false
theorem Rp.isRef {K mg Hd eh H} {x : EV} {v : V} (h : isRf x = true) (r : Rp K mg Hd eh H x v) : ∃ a, v = .ref a := by
  cases x with
  | tup _ => obtain ⟨a, _, e, _⟩ := r; exact ⟨a, e⟩
  | lst _ => obtain ⟨a, _, e, _⟩ := r; exact ⟨a, e⟩
  | scr _ => obtain ⟨a, e, _⟩ := r; exact ⟨a, e⟩
  | ref a => exact ⟨a, r⟩
  | _ => cases h
def bRepr : EOL := fun xs eh q => ∃ x d, xs = [x] ∧ isRf x = true ∧ Dat eh x d ∧ d.showable = true ∧ d.hasDict = false ∧ d.depth ≤ 60 ∧ d.shown.length ≤ sizeLine ∧ q (.str d.shown) eh
section
variable {X : Cx} {E : XK} {e : Expr} {ma : ME} {pos p1 p2 p3 : Pos}
theorem cb_repr {k : Nat} (hr : RoomG k X.A) : CallR X (.builtin "repr") (UL X.K X.mg bRepr) := by
  intro pins s σ H xs us Q I r h
  obtain ⟨Hd, eh, ys, q, R, ry, ⟨x, d, rfl, hx, hd, hs, hn, hz, hl, m⟩, k⟩ := h
  obtain ⟨v, r', rfl, rx, e⟩ := ry
  cases e
  obtain ⟨u, rfl, ru⟩ := vals1 r
  obtain ⟨a, rfl⟩ := rx.isRef hx
  cases ru
  obtain ⟨as, rd⟩ := hd.reads I R _ _ rx rfl
  have := hr.units
  refine repr_of_reads' rd hs (PyData.noDict_hsm hn) hr.g (by omega) (fun _ _ e => e) (fun h' t tk kp => ?_) hl
  exact ⟨.str d.shown, H, I.kept kp, ⟨t, rfl⟩, k eh H (.str d.shown) _ .refl R rfl m⟩
/-- xs[::-1], frozen -/
def mRev (ma : ME) : ME := fun xc es eh q => ma xc es eh fun x eh1 => ∃ xs, lstE eh1 x = some xs ∧ q (.lst xs.reverse) eh1
theorem re_rev {j : Nat} (h : PE X e (U X.K X.mg E ma)) : PE X (.Subscript e (.Slice none none (some (.UnaryOp .USub (.Constant (.int 1) j p1) p2)) p3) pos) (U X.K X.mg E (mRev ma)) :=
  PE.imp (pe_revL h) fun σ H Q ⟨Hd, es, eh, xc, q, R, xo, m, k⟩ => ⟨Hd, es, eh, xc, _, R, xo, m, fun eh1 H1 x v s1 R1 r1 ⟨xs, hx, m1⟩ => by
    obtain ⟨a, vs, rfl, ha, rv⟩ := lst_of R1 r1 hx
    exact ⟨a, vs, rfl, .inl (.inl ha), fun p hp => k eh1 _ (.lst xs.reverse) (.ref p) (s1.trans (.newF hp)) (R1.newF hp) ⟨p, vs.reverse, rfl, upd_same, ⟨R1.fresh hp, R1.notHid hp⟩, (rv.step (.newF hp)).reverse⟩ m1⟩⟩
end
end VM

/-! VME: isinstance of an instance; == of instances by their own __eq__; == of (int, int, dict of data). -/
namespace VM
open PySem PySem.Spec PyProof.Rows L2
/-- a class that isinstance knows -/
def isCB (K : PySem.W.Frag) (x : Str) : Bool :=
  He.eqO (PySem.W.findIn K (.ref (He.ga K x)) "__class__") (some (some (.builtin "object.__class__"))) && (He.eqO (PySem.W.specialIn K (.builtin "object.__class__") "__get__") (some (some (.builtin "getset_descriptor.__get__"))) &&
  (decide (PySem.W.takesIn K (.builtin "object.__class__") = some true) && (decide (PySem.W.mroIn K (He.ga K x) (.type "object") = some true) && decide (PySem.W.kitOne K (.ref (He.ga K x)) (.ref (He.ga K x)) = some true))))
theorem isCB_ok {K : PySem.W.Frag} {x : Str} (c : Cls K (He.ga K x)) (h : isCB K x = true) : C8.InsC K (He.ga K x) := by
  obtain ⟨c1, h⟩ := He.ba h
  obtain ⟨c2, h⟩ := He.ba h
  obtain ⟨c3, h⟩ := He.ba h
  obtain ⟨c4, c5⟩ := He.ba h
  exact ⟨c, He.eqO_ok c1, He.eqO_ok c2, of_decide_eq_true c3, of_decide_eq_true c4, of_decide_eq_true c5⟩
def bIsC (cn : Str) : EOL := fun xs eh q => ∃ x fs, xs = [x, .glo cn] ∧ insE eh x = some (cn, fs) ∧ q (.bl true) eh
def eK (ka kb : List (Key × EV)) (k : Key) : Bool := match getK ka k, getK kb k with
  | some x, some y => PyData.eqv (D x) (D y)
  | _, _ => false
def eqKV (ka kb : List (Key × EV)) : Bool := (ka.length == kb.length) && (ka.map (·.1)).all fun k => (getK kb k).isSome && eK ka kb k
structure PD (x : EV) : Prop where
  d : isD x = true
  p : (D x).plain = true
  z : (D x).depth ≤ 40
def cEqS : EO2 := fun x y eh q => ∃ i1 i2 ka j1 j2 kb, x = .tup [.int i1, .int i2, .dct ka] ∧ y = .tup [.int j1, .int j2, .dct kb] ∧ (∀ p ∈ ka, PD p.2) ∧ (∀ p ∈ kb, PD p.2) ∧ (ka.map (·.1)).Nodup ∧ (kb.map (·.1)).Nodup ∧
  q (.bl (decide (i1 = j1) && (decide (i2 = j2) && eqKV ka kb))) eh
/-- x == y of instances: the own __eq__ -/
def cEqO (cn : Str) (F : FN) : EO2 := fun x y eh q => ∃ fs gs, insE eh x = some (cn, fs) ∧ insE eh y = some (cn, gs) ∧ F xF [x, y] eh q
theorem getK_mem : ∀ {ka : List (Key × EV)} {k : Key} {x : EV}, getK ka k = some x → (k, x) ∈ ka
  | (k', y) :: ka, k, x, h => by
    by_cases e : k' = k
    · subst e; simp [getK] at h; subst h; simp
    · simp [getK, e] at h; exact List.mem_cons_of_mem _ (getK_mem h)
theorem getK_nodup : ∀ {ka : List (Key × EV)} {k : Key} {x : EV}, (ka.map (·.1)).Nodup → (k, x) ∈ ka → getK ka k = some x
  | (k', y) :: ka, k, x, hn, h => by
    rw [List.map_cons, List.nodup_cons] at hn
    rcases List.mem_cons.mp h with e | h
    · cases e; simp [getK]
    · have : k' ≠ k := fun z => hn.1 (z ▸ List.mem_map.mpr ⟨_, h, rfl⟩)
      simp [getK, this, getK_nodup hn.2 h]
theorem rpK_mem {K mg Hd eh H} : ∀ {ka : List (Key × EV)} {us : List (Key × V)}, RpK K mg Hd eh H ka us → ∀ {k : Key} {v : V}, (k, v) ∈ us → ∃ x, (k, x) ∈ ka ∧ Rp K mg Hd eh H x v
  | [], _, h, _, _, hm => by cases h; cases hm
  | (k', x') :: ka, _, ⟨v', r, e, p, t⟩, k, v, hm => by
    subst e
    rcases List.mem_cons.mp hm with e | hm
    · cases e; exact ⟨x', by simp, p⟩
    · obtain ⟨x, h1, h2⟩ := rpK_mem t hm
      exact ⟨x, by simp [h1], h2⟩
theorem kv_mem {us : List (Key × V)} {vs : List (Key × Value)} (h : KV us vs) : ∀ {k : Key} {u : Value}, (k, u) ∈ vs → ∃ v, (k, v) ∈ us ∧ RelV v u := by
  induction h with
  | nil => intro k u hm; cases hm
  | cons r _ ih =>
    rename_i p q us vs _
    intro k u hm
    rcases List.mem_cons.mp hm with e | hm
    · obtain ⟨e1, e2⟩ := r
      subst e
      exact ⟨p.2, List.mem_cons.mpr (.inl (Prod.ext e1.symm rfl)), e2⟩
    · obtain ⟨v, h1, h2⟩ := ih hm
      exact ⟨v, by simp [h1], h2⟩
theorem kv_keys {us : List (Key × V)} {vs : List (Key × Value)} (h : KV us vs) : vs.map (·.1) = us.map (·.1) := by
  induction h with
  | nil => rfl
  | cons r _ ih => simp [ih, r.1]
section
variable {X : Cx} {CX : CXT} {k np : Nat} {f C : Addr} {fd : FuncData} {ps : List Str} {F : FN} {cn : Str}
theorem cb_isC (c : C8.InsC X.K C) (hC : X.mg cn = some (.ref C)) : CallR X (.builtin "isinstance") (UL X.K X.mg (bIsC cn)) := by
  intro pins s σ H xs us Q I r h
  obtain ⟨Hd, eh, ys, q, R, ry, ⟨x, fs, rfl, hi, m⟩, k⟩ := h
  obtain ⟨v, r', rfl, rx, v2, r2, rfl, r3, e⟩ := ry
  cases e
  obtain ⟨u, hu, r3⟩ := r3
  rw [hC] at hu; cases hu
  obtain ⟨a, c', dx, us', rfl, hc, h, t⟩ := ins_of R rx hi
  rw [hC] at hc; cases hc
  obtain rfl : v2 = .ref C := by
    cases v2 with
    | ref b => cases r3; rfl
    | _ => first | (cases r3; done) | (obtain ⟨_, e⟩ := r3; cases e)
  exact C8.call_isC c pins s σ H _ us Q I r ⟨a, dx, us', rfl, h, k eh H (.bl true) _ .refl R rfl m⟩
theorem op_eq_sys {k : Nat} (hr : RoomG k X.A) : OpR X (compareOp .Eq) (U2 X.K X.mg cEqS) := by
  have hu := hr.units
  intro pins s σ H v u a b Q I r1 r2 h
  obtain ⟨Hd, eh, x, y, q, R, rx, ry, ⟨i1, i2, ka, j1, j2, kb, rfl, rfl, da, db, na, nb, m⟩, kk⟩ := h
  obtain ⟨p, vs, rfl, hp, rp⟩ := rx
  obtain ⟨p', us, rfl, hp', rp'⟩ := ry
  cases r1; cases r2
  obtain ⟨_, _, rfl, e1, _, _, rfl, e2, _, _, rfl, ⟨d1, o1, w1, rfl, h1, rk1⟩, e3⟩ := rp
  cases e1; cases e2; cases e3
  obtain ⟨_, _, rfl, e1, _, _, rfl, e2, _, _, rfl, ⟨d2, o2, w2, rfl, h2, rk2⟩, e3⟩ := rp'
  cases e1; cases e2; cases e3
  obtain ⟨its, rv, tup, _⟩ := I.tuple hp
  obtain ⟨its', rv', tup', _⟩ := I.tuple hp'
  cases rv with | cons x1 rv => cases rv with | cons x2 rv => cases rv with | cons x3 rv =>
  cases rv
  cases rv' with | cons y1 rv' => cases rv' with | cons y2 rv' => cases rv' with | cons y3 rv' =>
  cases rv'
  obtain ⟨t1, rfl⟩ := x1; obtain ⟨t2, rfl⟩ := x2; cases x3
  obtain ⟨t3, rfl⟩ := y1; obtain ⟨t4, rfl⟩ := y2; cases y3
  obtain ⟨_, s1, vs1, kv1, do1⟩ := (I.hok d1 _ h1).2
  obtain ⟨_, s2, vs2, kv2, do2⟩ := (I.hok d2 _ h2).2
  have rd : ∀ {x : EV} {v : V} {u : Value}, PD x → Rp X.K X.mg Hd eh H x v → RelV v u → ∃ as, Reads s.heap u (D x) as := fun px r ru => (Dat.of eh px.d).reads I R _ _ r ru
  have leaf : ∀ {x y : EV} {v w : V} {u z : Value}, PD x → PD y → Rp X.K X.mg Hd eh H x v → Rp X.K X.mg Hd eh H y w → RelV v u → RelV w z → PySem.W.EqTree X.prog X.w s 40 u z (PyData.eqv (D x) (D y)) := fun {x y v w u z} px py r1 r2 q1 q2 => by
    obtain ⟨as, ra⟩ := rd px r1 q1
    obtain ⟨bs, rb⟩ := rd py r2 q2
    exact .leaf fun A hA => SeqAt.eqAt_plain _ _ A s _ _ as bs ra rb px.p py.p (by have := px.z; omega)
  have int_ : ∀ i : Int, PD (.int i) := fun i => ⟨rfl, rfl, Nat.zero_le _⟩
  have dic : PySem.W.EqTree X.prog X.w s 41 (.ref d1) (.ref d2) (eqKV ka kb) := by
    have keys1 : vs1.map (·.1) = ka.map (·.1) := (kv_keys kv1).trans rk1.keys
    have keys2 : vs2.map (·.1) = kb.map (·.1) := (kv_keys kv2).trans rk2.keys
    by_cases hd : d1 = d2
    · subst hd
      have : eqKV ka kb = true := by
        have e := h1.symm.trans h2
        simp only [Option.some.injEq, HO.frz.injEq, HO.dK.injEq] at e
        obtain ⟨_, rfl⟩ := e
        have kk : ka.map (·.1) = kb.map (·.1) := rk1.keys.symm.trans rk2.keys
        unfold eqKV
        have hl : ka.length = kb.length := by simpa using congrArg List.length kk
        simp only [hl, beq_self_eq_true, Bool.true_and]
        refine List.all_eq_true.mpr fun k hk => ?_
        obtain ⟨⟨k1, x⟩, hx, rfl⟩ := List.mem_map.mp hk
        rw [kk] at hk
        obtain ⟨⟨k2, y⟩, hy, e2⟩ := List.mem_map.mp hk
        simp only at e2; subst e2
        have gx := getK_nodup na hx
        have gy := getK_nodup nb hy
        obtain ⟨v, hv, px⟩ := (lookup_valV rk1).1 x gx
        obtain ⟨v', hv', py⟩ := (lookup_valV rk2).1 y gy
        rw [hv] at hv'; cases hv'
        have rel := kv1.val k2
        rw [hv] at rel
        obtain ⟨u, _, ru⟩ := RelO.some_of rel
        obtain ⟨as, ra⟩ := rd (da _ hx) px ru
        obtain ⟨bs, rb⟩ := rd (db _ hy) py ru
        have e := SeqAt.plain_unique _ _ _ _ _ (da _ hx).p ra rb
        simp only [eK, gx, gy, Option.isSome_some, Bool.true_and, ← e]
        exact SeqAt.eqv_refl_plain _ (da _ hx).p
      rw [this]; exact .same
    · have t := PySem.W.EqTree.dicts (n := 40) (e := fun k => eK ka kb k) hd s1 s2 do1 do2 fun k v y hm hy => by
        obtain ⟨v1, hv1, rv1⟩ := kv_mem kv1 hm
        obtain ⟨x, hx, px⟩ := rpK_mem rk1 hv1
        have rel := kv2.val k
        rw [hy] at rel
        cases hw : valV w2 k with
        | none => rw [hw] at rel; exact rel.elim
        | some v2 =>
          rw [hw] at rel
          cases gy : getK kb k with
          | none => rw [(lookup_valV rk2).2 gy] at hw; cases hw
          | some z =>
            obtain ⟨v2', hv2', pz⟩ := (lookup_valV rk2).1 z gy
            rw [hw] at hv2'; cases hv2'
            have gx := getK_nodup na hx
            show PySem.W.EqTree _ _ _ _ _ _ (eK ka kb k)
            simp only [eK, gx, gy]
            exact leaf (da _ hx) (db _ (getK_mem gy)) px pz rv1 rel
      have eq : (vs1.length == vs2.length && vs1.all fun p => (valueAt vs2 p.1).isSome && eK ka kb p.1) = eqKV ka kb := by
        have l1 : vs1.length = ka.length := by simpa using congrArg List.length keys1
        have l2 : vs2.length = kb.length := by simpa using congrArg List.length keys2
        unfold eqKV
        rw [l1, l2, ← keys1, List.all_map]
        congr 1
        congr 1
        funext p
        show ((valueAt vs2 p.1).isSome && eK ka kb p.1) = ((getK kb p.1).isSome && eK ka kb p.1)
        rw [← lookup_some rk2, ← (kv2.val p.1).isSome_eq]
      rw [eq] at t; exact t
  refine PySem.W.eq_tuplesT (n := 41) (e := fun j => match j with | 0 => PyData.eqv (D (.int i1)) (D (.int j1)) | 1 => PyData.eqv (D (.int i2)) (D (.int j2)) | _ => eqKV ka kb) tup tup' (fun j q1 q2 => ?_) (by omega) ?_
  · have up : ∀ {u z : Value} {b : Bool}, PySem.W.EqTree X.prog X.w s 40 u z b → (∀ A : Around, A.units + 41 < cLine → SeqAt.EqAt A s u z b) → PySem.W.EqTree X.prog X.w s 41 u z b := fun _ h => .leaf h
    have il : ∀ (i j : Int) (t t' : Tok), PySem.W.EqTree X.prog X.w s 41 (.int i t) (.int j t') (PyData.eqv (D (.int i)) (D (.int j))) := fun i j t t' => by
      obtain ⟨as, ra⟩ := rd (x := .int i) (v := .int i) (int_ i) rfl (⟨t, rfl⟩ : RelV (.int i) (.int i t))
      obtain ⟨bs, rb⟩ := rd (x := .int j) (v := .int j) (int_ j) rfl (⟨t', rfl⟩ : RelV (.int j) (.int j t'))
      exact .leaf fun A hA => SeqAt.eqAt_plain _ _ A s _ _ as bs ra rb rfl rfl (by show A.units + min 0 0 < _; omega)
    match j, q1, q2 with
    | 0, _, _ => exact il i1 j1 _ _
    | 1, _, _ => exact il i2 j2 _ _
    | 2, _, _ => exact dic
  · refine ⟨.bl _, H, I, rfl, kk eh H (.bl _) (.bl _) .refl R rfl ?_⟩
    have b1 : ∀ i j : Int, PyData.eqv (D (.int i)) (D (.int j)) = decide (i = j) := fun i j => by
      show (i == j) = _
      by_cases h : i = j <;> simp [h]
    have e : ([0, 1, 2].all (fun j => match j with | 0 => PyData.eqv (D (.int i1)) (D (.int j1)) | 1 => PyData.eqv (D (.int i2)) (D (.int j2)) | _ => eqKV ka kb) && ((3 : Nat) == 3)) = (decide (i1 = j1) && (decide (i2 = j2) && eqKV ka kb)) := by
      simp only [b1]
      simp [List.all_cons]
    show q (.bl ([0, 1, 2].all _ && ((3 : Nat) == 3))) eh
    rw [e]; exact m
/-- o.m(k = v, ..): keywords alone -/
def mMethN (cn mn : Str) (F : FN) (N m : Nat) (gE : List EV → List EV → List EV) (ma : ME) (tk : MA) : ME := fun xc es eh q => ma xc es eh fun x eh1 => ∃ fs, insE eh1 x = some (cn, fs) ∧ fs.lookup mn = none ∧
  tk xc es eh1 fun zs eh2 => zs.length = m ∧ (gE [x] zs).length = N ∧ F xc (gE [x] zs) eh2 q
theorem re_methN0 {E : XK} {m : Str} {o : Expr} {ma : ME} {tk : MA} {pos apos : Pos} {ks : List Str} {kws : List Keyword} {g : List Value → List Value → List Value} {gV : List V → List V → List V} {gE : List EV → List EV → List EV} {pl : Sem Bool} (hC : X.mg cn = some (.ref C)) (ho : PE X o (U X.K X.mg E ma)) (c : Cls X.K C) (hm : Meth X.K C m f)
    (G : FnG X.prog X.w X.K X.mg X.base CX k f fd ps (spOf X.K X.mg np F)) (ro : RoomG k X.A) (hb : KBn X.K fd ps 1 ks g gV) (hG : GOk X.K X.mg gE gV) (hx : Passes CX X E) (hkw : PK X kws (UA X.K X.mg E tk))
    (hall : (backToKw pos (keywordEach kws X.env)).all (·.1.isSome) = true := by rfl) (hks : (backToKw pos (keywordEach kws X.env)).filterMap (·.1) = ks := by rfl)
    (hpl : ((backTo pos (starEach [] X.env)).any (·.1) || (backToKw pos (keywordEach kws X.env)).any (·.1.isNone)) = false := by rfl)
    (ht : eval (.Call (.Attribute o m apos) [] kws pos) X.env = (do
      let v ← eval o X.env
      standAt apos.atName
      let (fn, ahead) ← holding [v] (getMethod v m pl)
      callWith pos fn ahead (backTo pos (starEach [] X.env)) (backToKw pos (keywordEach kws X.env))) := by rfl) :
    PE X (.Call (.Attribute o m apos) [] kws pos) (U X.K X.mg E (mMethN cn m F np ks.length gE ma tk)) :=
  PE.imp (G.methk0_ ho c hm ro hb (Passes.at hx) hkw hall hks hpl ⟨pl, ht⟩) fun σ H Q ⟨Hd, es, eh, xc, q, R, xo, mm, kk⟩ => ⟨Hd, es, eh, xc, _, R, xo, mm, fun eh1 H1 x v s1 R1 r1 ⟨fs, hi, hl, m1⟩ => by
    obtain ⟨a, c, dx', us, rfl, hc, h, t⟩ := ins_of R1 r1 hi
    rw [hC] at hc; cases hc
    exact ⟨a, dx', us, rfl, h, t.lookup_none hl, Hd, es, eh1, xc, _, R.step s1 R1, xo.step s1, m1, fun eh2 H2 zs ws s2 R2 r2 ⟨h2, hn, m2⟩ =>
      ⟨by rw [← h2]; exact r2.length.symm, Hd, _, _, xc, _, by rw [← hn]; exact (hG.rel (.one (r1.step s2)) r2).length.symm, R2, hG.rel (.one (r1.step s2)) r2, (xo.step s1).step s2, m2, fun eh3 H3 z w s3 => kk eh3 H3 z w (s1.trans (s2.trans s3))⟩⟩⟩
/-- len(x), an own __len__ -/
def bLenO (cn : Str) (F : FN) : EOL := fun xs eh q => ∃ x fs, xs = [x] ∧ insE eh x = some (cn, fs) ∧ F xF [x] eh fun z eh1 => ∃ n, z = .int n ∧ (0 ≤ n ∧ n < 2 ^ 63) ∧ q (.int n) eh1
theorem cb_lenO (hC : X.mg cn = some (.ref C)) (hm : Meth X.K C "__len__" f) (G : FnG X.prog X.w X.K X.mg X.base CX0 k f fd ps (spOf X.K X.mg 1 F)) (ro : RoomG (k + 1) X.A) (hb : Binds X.K fd ps []) : CallR X (.builtin "len") (UL X.K X.mg (bLenO cn F)) := by
  intro pins s σ H xs us Q I r h
  obtain ⟨Hd, eh, ys, q, R, ry, ⟨x, fs, rfl, hi, m⟩, kk⟩ := h
  obtain ⟨v, r', rfl, rx, e⟩ := ry
  cases e
  obtain ⟨u, rfl, ru⟩ := vals1 r
  obtain ⟨p, c, dx, us', rfl, hc, hp, t⟩ := ins_of R rx hi
  rw [hC] at hc; cases hc
  cases ru
  obtain ⟨mA, J, _⟩ := ins_get I.hok hp
  obtain ⟨od, J, _⟩ := J.look
  obtain ⟨m', hF⟩ := I.fr
  refine PySem.W.len_K hF I.ok.mod.kin J hm.at_ hm.fn ?_
  have sp : spOf X.K X.mg 1 F ([.ref p] ++ []) H (fun w H' => ∃ n, w = .int n ∧ (0 ≤ n ∧ n < 2 ^ 63) ∧ Q (.int n) H') E0 :=
    ⟨Hd, eh, [x], xF, _, rfl, R, .one rx, .no, m, fun eh' H' z w s1 R1 r1 ⟨n, ez, hn, hq⟩ => by
      subst ez; cases r1
      exact ⟨n, rfl, hn, kk eh' H' (.int n) (.int n) s1 R1 rfl hq⟩⟩
  have rv : Vals ([V.ref p] ++ []) ([Value.ref p] ++ []) := .cons rfl .nil
  refine wpAny_call (codeAny_mono (G.go ro.in1 I.env0.in1 (hb s [.ref p] I.kIn (rv.length.symm.trans (G.num _ _ _ _ sp))) rv sp) fun r s' hq => ?_)
  cases r with
  | error er => exact hq.elim
  | ok fl =>
    cases fl with
    | ret u =>
      obtain ⟨w, H', L, rw', n, ew, hn, q3⟩ := I.after hq
      subst ew
      obtain ⟨tt, rfl⟩ := rw'
      exact ⟨hn, .int n, H', L.tok _, ⟨_, rfl⟩, q3⟩
    | _ => exact hq.elim
/-- the promise of __eq__ -/
theorem op_eq_own (hC : X.mg cn = some (.ref C)) (hm : Meth X.K C "__eq__" f) (G : FnG X.prog X.w X.K X.mg X.base CX0 k f fd ps (spOf X.K X.mg 2 F)) (ro : RoomG k X.A) (hb : Binds X.K fd ps []) : OpR X (compareOp .Eq) (U2 X.K X.mg (cEqO cn F)) := by
  intro pins s σ H v u a b Q I r1 r2 ⟨Hd, eh, x, y, q, R, rx, ry, ⟨fs, gs, hx, hy, m⟩, kk⟩
  obtain ⟨p, c, dx, us, rfl, hc, hp, t⟩ := ins_of R rx hx
  obtain ⟨p', c', dx', us', rfl, hc', hp', t'⟩ := ins_of R ry hy
  rw [hC] at hc hc'; cases hc; cases hc'
  cases r1; cases r2
  obtain ⟨mA, J, _⟩ := ins_get I.hok hp
  obtain ⟨mB, J', _⟩ := ins_get I.hok hp'
  obtain ⟨od, J, _⟩ := J.look
  obtain ⟨od', J', _⟩ := J'.look
  obtain ⟨m', hF⟩ := I.fr
  refine PySem.W.cmp_K (op := .Eq) (tb := .ref C) ro.r.units0 hF I.ok.mod.kin J J'.type (by simp [PySem.W.notFirst]) hm.at_ hm.fn ?_
  have sp : spOf X.K X.mg 2 F ([.ref p, .ref p'] ++ []) H Q E0 :=
    ⟨Hd, eh, [x, y], xF, q, rfl, R, .cons rx (.cons ry .nil), .no, m, fun eh' H' z w s1 R1 r1 e1 => kk eh' H' z w s1 R1 r1 e1⟩
  have rv : Vals ([V.ref p, .ref p'] ++ []) ([Value.ref p, .ref p'] ++ []) := .cons rfl (.cons rfl .nil)
  refine wpAny_mono (G.here (as := [.ref p, .ref p']) (kw := []) (Q := fun z H' => Q z H') (E := E0) ro (Passes.at pass_any _) I (hb s [.ref p, .ref p'] I.kIn (rv.length.symm.trans (G.num _ _ _ _ sp))) rv ?_) (fun z s' hz => ?_) fun _ _ e => e
  · exact sp
  · obtain ⟨w, H', J, rw', q'⟩ := hz
    have : ∀ {v : V} {z : Value}, RelV v z → z ≠ .notImplemented := fun {v z} r e => by
      subst e
      cases v <;> first | (cases r; done) | (obtain ⟨_, e⟩ := r; cases e; done)
    cases z with
    | notImplemented => exact absurd rfl (this rw')
    | _ => exact ⟨w, H', J, rw', q'⟩
end
/-! ### an explicit list in a slot is frozen -/
def sFzV (i : Nat) (ms : MS) : MS := fun xc d es eh => ∃ p xs, es[i]? = some (some (.ref p)) ∧ eh p = some (.lst xs) ∧ ms xc d (es.set i (some (.lst xs))) (eupd eh p none)
theorem rpL_ref {K mg Hd} {eh eh' : Eh} {H : Hp} (s : Step eh H eh' H) {xs : List EV} {vs : List V} (h : RpL K mg Hd eh H xs vs) : RpL K mg Hd eh' H xs vs := h.step s
theorem rs_fzV {X : Cx} {E : XK} {ss : List Stmt} {i : Nat} {ms : MS} (h : PSs X ss (US X.K X.mg E ms)) : PSs X ss (US X.K X.mg E (sFzV i ms)) := by
  refine ⟨fun pins s σ H D I w => ?_⟩
  obtain ⟨Hd, es, eh, xc, d, R, xo, ⟨p, xs, ei, ep, m⟩, k1, k2, k3, k4⟩ := w
  have st : Step eh H (eupd eh p none) H := ⟨fun a o ho hn _ => ⟨ho, by
    rw [eupd_ne fun z => by rw [z, ep] at hn; cases hn]; exact hn⟩, fun _ _ h => h, fun _ _ _ h => h⟩
  obtain ⟨vs, hp, rv⟩ := R.obj.ob p _ ep
  have nh : ¬ Hd p := fun z => by have := (R.obj.hd p z).2; rw [ep] at this; cases this
  have R' : Rh X.K X.mg Hd (eupd eh p none) H := ⟨R.obj.tb, fun a o e => by
    by_cases ha : a = p
    · subst ha; rw [eupd_same] at e; cases e
    · rw [eupd_ne ha] at e; exact (R.obj.ob a o e).step' st rfl, fun a z => by
    obtain ⟨q, n⟩ := R.obj.hd a z
    refine ⟨q, ?_⟩
    by_cases ha : a = p
    · subst ha; exact eupd_same
    · rw [eupd_ne ha]; exact n⟩
  obtain ⟨v, hv, rr⟩ := R.loc i _ ei
  cases rr
  have rl : Rl X.K X.mg Hd (eupd eh p none) H (es.set i (some (.lst xs))) σ := by
    have := (R.step st R').set (i := i) (x := .lst xs) (v := .ref p) ⟨p, vs, rfl, hp, ⟨eupd_same, nh⟩, rv.step st⟩
    have e : σ.set i (some (.ref p)) = σ := List.ext_getElem? fun j => by
      rw [List.getElem?_set]
      split
      · rename_i hj; subst hj
        split
        · exact hv.symm
        · rename_i hl; rw [List.getElem?_eq_none (by omega)]
      · rfl
    rwa [e] at this
  exact h.run pins s σ H D I ⟨Hd, _, _, xc, d, rl, xo.step st, m, fun es2 eh2 σ2 H2 s3 => k1 es2 eh2 σ2 H2 (st.trans s3), fun eh2 H2 x v s3 => k2 eh2 H2 x v (st.trans s3), fun es2 eh2 σ2 H2 s3 => k3 es2 eh2 σ2 H2 (st.trans s3), fun es2 eh2 σ2 H2 s3 => k4 es2 eh2 σ2 H2 (st.trans s3)⟩
end VM

/-! VMN: != of instances by the own __eq__; dicts: ==, !=, sorted, dict(d), displays. -/
namespace VM
open PySem PySem.Spec PyProof.Rows L2
def strKeysB (es : Array DictEntry) : Bool := es.all fun e => match e.key with | .str _ _ => true | _ => false
theorem strKeysB_ok {es : Array DictEntry} (h : strKeysB es = true) : StrKeys es := fun e he => by
  have := Array.all_eq_true_iff_forall_mem.mp h e he
  revert this
  cases e.key with
  | str n t => exact fun _ => ⟨n, t, rfl⟩
  | _ => intro z; cases z
/-- a class over object alone with an own __eq__ and no own __ne__ -/
def isNB (K : PySem.W.Frag) (C : Addr) : Bool :=
  match List.lookup C K with
  | some ⟨.type t, _, .cls cd, sl⟩ => (t == "type") && ((match cd.mro with | [.ref c, .type o] => c == C && o == "object" | _ => false) && (!cd.hasDel &&
      ((match sl.toList with | [_, _, _, _, some (.builtin _), _] => true | _ => false) &&
      (match List.lookup cd.ns K with
       | some ⟨_, _, .dict es _, _⟩ => strKeysB es && (He.eqO (PySem.W.findIn K (.ref C) "__eq__") (some (nsFind es "__eq__")) && (nsFind es "__ne__").isNone)
       | _ => false))))
  | _ => false
theorem fn_cls {K : PySem.W.Frag} {f : Addr} (h : PySem.W.isFn K (.ref f) = true) : ∃ o, List.lookup f K = some o ∧ o.cls = .type "function" := by
  unfold PySem.W.isFn PySem.W.typeIn at h
  cases e : List.lookup f K with
  | none => simp [e] at h
  | some o => exact ⟨o, rfl, by simpa [e] using h⟩
theorem own_ne {K : PySem.W.Frag} {C f x : Addr} {o : Obj} {hp : Heap} (KI : K.In hp) (h : isNB K C = true) (m : Meth K C "__eq__" f) (hx : hp.get? x = some o) (hc : o.cls = .ref C) : hp.OwnEqNoNe x C f "object" [.type "object"] := by
  unfold isNB at h
  split at h
  · rename_i t dd cd sl e
    obtain ⟨h1, h⟩ := He.ba h
    obtain ⟨h2, h⟩ := He.ba h
    obtain ⟨h3, h⟩ := He.ba h
    obtain ⟨h4, h⟩ := He.ba h
    split at h2 <;> try cases h2
    rename_i c ob em
    split at h4 <;> try cases h4
    rename_i k0 k1 k2 k3 nid k5 es4
    split at h <;> try cases h
    rename_i oc od es ep os en
    obtain ⟨h5, h⟩ := He.ba h
    obtain ⟨h6, h7⟩ := He.ba h
    obtain ⟨g1, g2⟩ := He.ba h2
    have ct : t = "type" := by simpa using h1
    have cC : c = C := by simpa using g1
    have co : ob = "object" := by simpa using g2
    subst ct cC co
    obtain ⟨fo, lf, cf⟩ := fn_cls m.fn
    have e6 : PySem.W.findIn K (.ref c) "__eq__" = some (nsFind es "__eq__") := of_decide_eq_true h6
    rw [m.at_] at e6
    have sle : sl = #[k0, k1, k2, k3, some (.builtin nid), k5] := by
      have := congrArg List.toArray es4
      simpa using this
    obtain ⟨nm, bs, mro, N, q, hd, sn, sub, ab, col, hdel⟩ := cd
    simp only at em h3 en
    have hdf : hdel = false := by simpa using h3
    subst em sle hdf
    exact ⟨o, fo, nm, q, N, bs, hd, sn, sub, ab, col, dd, k0, k1, k2, k3, k5, nid, nsFind es, _, hx, hc, KI _ _ e, ⟨_, es, ep, KI _ _ en, rfl, strKeysB_ok h5, fun _ => rfl⟩, (Option.some.inj e6).symm, KI _ _ lf, cf, F.cmp_object.mro, F.cmp_object.eq.lookup, by simpa using h7⟩
  · cases h
section
variable {X : Cx} {k np : Nat} {f C : Addr} {fd : FuncData} {ps : List Str} {F : FN} {cn : Str}
/-- x != y of instances: the own __eq__, turned -/
def cNeO (cn : Str) (F : FN) : EO2 := fun x y eh q => ∃ fs gs, insE eh x = some (cn, fs) ∧ insE eh y = some (cn, gs) ∧ F xF [x, y] eh fun z eh1 => ∃ b, z = .bl b ∧ q (.bl (!b)) eh1
theorem op_ne_own (hC : X.mg cn = some (.ref C)) (hm : Meth X.K C "__eq__" f) (hN : isNB X.K C = true) (G : FnG X.prog X.w X.K X.mg X.base CX0 k f fd ps (spOf X.K X.mg 2 F)) (ro : RoomG (k + 1) X.A) (hb : Binds X.K fd ps []) : OpR X (compareOp .NotEq) (U2 X.K X.mg (cNeO cn F)) := by
  intro pins s σ H v u a b Q I r1 r2 ⟨Hd, eh, x, y, q, R, rx, ry, ⟨fs, gs, hx, hy, m⟩, kk⟩
  have hu := ro.units
  obtain ⟨p, c, dx, us, rfl, hc, hp, t⟩ := ins_of R rx hx
  obtain ⟨p', c', dx', us', rfl, hc', hp', t'⟩ := ins_of R ry hy
  rw [hC] at hc hc'; cases hc; cases hc'
  cases r1; cases r2
  obtain ⟨mA, J, _⟩ := ins_get I.hok hp
  obtain ⟨mB, J', _⟩ := ins_get I.hok hp'
  obtain ⟨od, J, _⟩ := J.look
  obtain ⟨od', J', _⟩ := J'.look
  refine compareOp_ne_ownEq PySem.F.cmp_object (own_ne I.kIn hN hm J.at_ J.cls) J'.at_ J'.cls (by omega) ?_
  have sp : spOf X.K X.mg 2 F ([.ref p, .ref p'] ++ []) H (fun w H' => ∃ n, w = .bl n ∧ Q (.bl (!n)) H') E0 :=
    ⟨Hd, eh, [x, y], xF, _, rfl, R, .cons rx (.cons ry .nil), .no, m, fun eh' H' z w s1 R1 r1 ⟨n, ez, hq⟩ => by
      subst ez; cases r1
      exact ⟨n, rfl, kk eh' H' (.bl (!n)) (.bl (!n)) s1 R1 rfl hq⟩⟩
  have rv : Vals ([V.ref p, .ref p'] ++ []) ([Value.ref p, .ref p'] ++ []) := .cons rfl (.cons rfl .nil)
  refine wpAny_call (codeAny_mono (G.go ro.in1 I.env0.in1 (hb s [.ref p, .ref p'] I.kIn (rv.length.symm.trans (G.num _ _ _ _ sp))) rv sp) fun r s' hq => ?_)
  cases r with
  | error er => exact hq.elim
  | ok fl =>
    cases fl with
    | ret u =>
      obtain ⟨w, H', L, rw', n, ew, q3⟩ := I.after hq
      subst ew
      cases rw'
      exact ⟨n, rfl, .bl (!n), H', L, rfl, q3⟩
    | _ => exact hq.elim
/-! ### dicts compared -/
def cEqD (neg : Bool) : EO2 := fun x y eh q => ∃ ka kb, dctE eh x = some ka ∧ dctE eh y = some kb ∧ (∀ p ∈ ka, PD p.2) ∧ (∀ p ∈ kb, PD p.2) ∧ (ka.map (·.1)).Nodup ∧ (kb.map (·.1)).Nodup ∧ q (.bl (neg ^^ eqKV ka kb)) eh
theorem eq_hits {s : Shared} {A : Around} {Hd : Addr → Prop} {pins : List (Addr × Obj)} {σ : L2.St} {eh : Eh} {H : Hp} {ka kb : List (Key × EV)} {w1 w2 : List (Key × V)} {vs1 vs2 : List (Key × Value)} (hu : A.units + 41 < cLine) (I : Inv X pins σ H s) (R : Rh X.K X.mg Hd eh H)
    (da : ∀ p ∈ ka, PD p.2) (db : ∀ p ∈ kb, PD p.2) (na : (ka.map (·.1)).Nodup) (rk1 : RpK X.K X.mg Hd eh H ka w1) (rk2 : RpK X.K X.mg Hd eh H kb w2) (kv1 : KV w1 vs1) (kv2 : KV w2 vs2) :
    ∀ l : List (Key × Value), (∀ p ∈ l, p ∈ vs1) → PySem.W.KeqHits A s vs2 l (l.all fun p => (valueAt vs2 p.1).isSome && eK ka kb p.1)
  | [], _ => .nil
  | (k, v) :: r, h => by
    have ih := eq_hits hu I R da db na rk1 rk2 kv1 kv2 r fun p hp => h p (by simp [hp])
    obtain ⟨v1, hv1, rv1⟩ := kv_mem kv1 (h (k, v) (by simp))
    obtain ⟨x, hx, px⟩ := rpK_mem rk1 hv1
    have rel := kv2.val k
    rw [List.all_cons]
    cases hy : valueAt vs2 k with
    | none => simpa using PySem.W.KeqHits.miss hy
    | some y =>
      rw [hy] at rel
      cases hw : valV w2 k with
      | none => rw [hw] at rel; exact rel.elim
      | some v2 =>
        rw [hw] at rel
        cases gy : getK kb k with
        | none => rw [(lookup_valV rk2).2 gy] at hw; cases hw
        | some z =>
          obtain ⟨v2', hv2', pz⟩ := (lookup_valV rk2).1 z gy
          rw [hw] at hv2'; cases hv2'
          have gx := getK_nodup na hx
          obtain ⟨as, ra⟩ := (Dat.of eh (da _ hx).d).reads I R _ _ px rv1
          obtain ⟨bs, rb⟩ := (Dat.of eh (db _ (getK_mem gy)).d).reads I R _ _ pz rel
          have e : eK ka kb k = PyData.eqv (D x) (D z) := by simp only [eK, gx, gy]
          have hz : (D x).depth ≤ 40 := (da _ hx).z
          simp only [Option.isSome_some, Bool.true_and, e]
          exact .hit hy (SeqAt.eqAt_plain _ _ A s _ _ as bs ra rb (da _ hx).p (db _ (getK_mem gy)).p (by omega)) ih
theorem op_eqD {k : Nat} {neg : Bool} (hr : RoomG k X.A) : OpR X (compareOp (if neg then .NotEq else .Eq)) (U2 X.K X.mg (cEqD neg)) := by
  have hu := hr.units
  intro pins s σ H v u a b Q I r1 r2 h
  obtain ⟨Hd, eh, x, y, q, R, rx, ry, ⟨ka, kb, ex, ey, da, db, na, nb, m⟩, kk⟩ := h
  obtain ⟨d1, w1, rfl, h1, rk1⟩ := dct_of R rx ex
  obtain ⟨d2, w2, rfl, h2, rk2⟩ := dct_of R ry ey
  cases r1; cases r2
  obtain ⟨_, s1, vs1, kv1, do1⟩ := h1.ok I.hok
  obtain ⟨_, s2, vs2, kv2, do2⟩ := h2.ok I.hok
  have keys1 : vs1.map (·.1) = ka.map (·.1) := (kv_keys kv1).trans rk1.keys
  have keys2 : vs2.map (·.1) = kb.map (·.1) := (kv_keys kv2).trans rk2.keys
  have hits := eq_hits (A := X.A.in1) (vs2 := vs2) (by show X.A.units + 1 + 41 < cLine; omega) I R da db na rk1 rk2 kv1 kv2 vs1 fun _ h => h
  have eq : (vs1.length == vs2.length && vs1.all fun p => (valueAt vs2 p.1).isSome && eK ka kb p.1) = eqKV ka kb := by
    have l1 : vs1.length = ka.length := by simpa using congrArg List.length keys1
    have l2 : vs2.length = kb.length := by simpa using congrArg List.length keys2
    unfold eqKV
    rw [l1, l2, ← keys1, List.all_map]
    congr 1
    congr 1
    funext p
    show ((valueAt vs2 p.1).isSome && eK ka kb p.1) = ((getK kb p.1).isSome && eK ka kb p.1)
    rw [← lookup_some rk2, ← (kv2.val p.1).isSome_eq]
  cases neg with
  | false => exact PySem.W.keq_eq s1 s2 do1 do2 (by omega) (fun _ => hits) ⟨.bl _, H, I, rfl, kk eh H (.bl _) (.bl _) .refl R rfl (by rw [eq]; simpa using m)⟩
  | true => exact PySem.W.keq_ne s1 s2 do1 do2 (by omega) (fun _ => hits) ⟨.bl _, H, I, rfl, kk eh H (.bl _) (.bl _) .refl R rfl (by rw [eq]; simpa using m)⟩
/-! ### sorted(d), sorted(xs), dict(d) -/
def bSortD : EOL := fun xs eh q => match xs with
  | [x] => ∃ kvs ks, dctE eh x = some kvs ∧ kvs.map (·.1) = ks.map Sum.inr ∧ ks.length < 64 ∧ ∀ ys : List Str, ys.Perm ks → sortedS ys = true → q (.lst (ys.map .str)) eh
  | _ => False
theorem rpL_strs {K mg Hd eh H} : ∀ ys : List Str, RpL K mg Hd eh H (ys.map EV.str) (ys.map V.str)
  | [] => rfl
  | y :: ys => .cons rfl (rpL_strs ys)
theorem cb_sortD (hc : X.calm = true) : CallR X (.builtin "sorted") (UL X.K X.mg bSortD) := CallR.imp (call_sortedD hc) fun vs H Q ⟨Hd, eh, xs, q, R, rx, m, k⟩ => by
  unfold bSortD at m
  split at m
  · obtain ⟨kvs, ks, hy, e, hl, m⟩ := m
    obtain ⟨v, rfl, h⟩ := one_of rx
    obtain ⟨a, ws, rfl, hs, rr⟩ := dct_of R h hy
    exact ⟨a, ws, ks, rfl, hs, rr.keys.trans e, hl, fun ys p hp h2 hn => k eh _ (.lst (ys.map .str)) (.ref p) (.newF hn) (R.newF hn) ⟨p, _, rfl, upd_same, ⟨R.fresh hn, R.notHid hn⟩, rpL_strs ys⟩ (m ys hp h2)⟩
  · exact m.elim
def bSortS : EOL := fun xs eh q => match xs with
  | [x] => ∃ ks : List Str, lstE eh x = some (ks.map .str) ∧ ks.length < 64 ∧ ∀ ys : List Str, ys.Perm ks → sortedS ys = true → q (.lst (ys.map .str)) eh
  | _ => False
theorem rpL_strs_inv {K mg Hd eh H} : ∀ {ks : List Str} {vs : List V}, RpL K mg Hd eh H (ks.map EV.str) vs → vs = ks.map V.str
  | [], _, h => h
  | _ :: ks, _, ⟨v, r, e, h1, h2⟩ => by rw [e, rpL_strs_inv h2, show v = _ from h1]; rfl
theorem cb_sortS : CallR X (.builtin "sorted") (UL X.K X.mg bSortS) := CallR.imp cr_sortedS fun vs H Q ⟨Hd, eh, xs, q, R, rx, m, k⟩ => by
  unfold bSortS at m
  split at m
  · obtain ⟨ks, hy, hl, m⟩ := m
    obtain ⟨v, rfl, h⟩ := one_of rx
    obtain ⟨a, ws, rfl, hs, rr⟩ := lst_of R h hy
    obtain rfl := rpL_strs_inv rr
    exact ⟨a, ks, rfl, .of hs, hl, fun ys p hp h2 hn => k eh _ (.lst (ys.map .str)) (.ref p) (.newF hn) (R.newF hn) ⟨p, _, rfl, upd_same, ⟨R.fresh hn, R.notHid hn⟩, rpL_strs ys⟩ (m ys hp h2)⟩
  · exact m.elim
def bDictD : EOL := fun xs eh q => match xs with
  | [x] => ∃ kvs, dctE eh x = some kvs ∧ ∀ p, eh p = none → q (.ref p) (eupd eh p (some (.dct kvs)))
  | _ => False
theorem cb_dictD : CallR X (.type "dict") (UL X.K X.mg bDictD) := CallR.imp call_dictD fun vs H Q ⟨Hd, eh, xs, q, R, rx, m, k⟩ => by
  unfold bDictD at m
  split at m
  · obtain ⟨kvs, hy, m⟩ := m
    obtain ⟨v, rfl, h⟩ := one_of rx
    obtain ⟨a, ws, rfl, hs, rr⟩ := dct_of R h hy
    exact ⟨a, ws, rfl, hs, fun p hn => k _ _ (.ref p) (.ref p) (.new hn) (R.new (eo := .dct kvs) hn ⟨ws, upd_same, rr.step (.new hn)⟩) rfl (m p (R.fresh hn))⟩
  · exact m.elim
/-! ### written dicts with text keys -/
def mDisp (ks : List Str) (t : MA) : ME := fun xc es eh q => ∀ p, eh p = none → t xc es (eupd eh p (some (.dct []))) fun xs eh1 => eh1 p = some (.dct []) ∧ xs.length = ks.length ∧ q (.ref p) (eupd eh1 p (some (.dct ((ks.map Sum.inr).zip xs))))
def DispR (X : Cx) (E : XK) (pos : Pos) (keys : List (Option Expr)) (values : List Expr) (ks : List Str) (t : MA) : Prop :=
  ∃ trs, PPs X pos keys values trs ∧ ∀ σ H Q, UA X.K X.mg E t σ H (fun vs H' => Q ((ks.zip vs).map fun p => (V.str p.1, p.2)) H') → tPairs trs σ H Q
theorem disp_nil {E : XK} {pos : Pos} : DispR X E pos [] [] [] aNil :=
  ⟨[], pps_nil, fun σ H Q ⟨Hd, es, eh, xc, q, R, xo, m, k⟩ => k eh H [] [] .refl R.obj rfl m⟩
theorem disp_cons {E : XK} {pos : Pos} {z : Str} {j : Nat} {cp : Pos} {e : Expr} {keys : List (Option Expr)} {values : List Expr} {ks : List Str} {m : ME} {t : MA} (hv : PE X e (U X.K X.mg E m)) (h : DispR X E pos keys values ks t) :
    DispR X E pos (some (.Constant (.str z) j cp) :: keys) (e :: values) (z :: ks) (aCons m t) := by
  obtain ⟨trs, pp, g⟩ := h
  refine ⟨_, pps_cons pe_str hv pp, fun σ H Q ⟨Hd, es, eh, xc, q, R, xo, mm, kk⟩ => ?_⟩
  refine ⟨Hd, es, eh, xc, _, R, xo, mm, fun eh1 H1 x v s1 R1 r1 m1 => ?_⟩
  exact g σ H1 _ ⟨Hd, es, eh1, xc, _, R.step s1 R1, xo.step s1, m1, fun eh2 H2 xs vs s2 R2 r2 m2 => kk eh2 H2 (x :: xs) (v :: vs) (s1.trans s2) R2 (.cons (r1.step s2) r2) m2⟩
theorem mergeK_app : ∀ (kvs acc : List (Key × V)), ((acc ++ kvs).map (·.1)).Nodup → mergeK acc kvs = acc ++ kvs
  | [], acc, _ => by simp [mergeK]
  | (k, v) :: r, acc, h => by
    have hk : k ∉ acc.map (·.1) := fun z => by
      rw [List.map_append, List.nodup_append] at h
      exact h.2.2 k z k (by simp) rfl
    have e : putK acc k v = acc ++ [(k, v)] := by
      unfold putK
      rw [if_neg]
      simpa using hk
    show mergeK (putK acc k v) r = _
    rw [e, mergeK_app r (acc ++ [(k, v)]) (by simpa using h)]
    simp
theorem rpK_zip {K mg Hd eh H} : ∀ {ks : List Key} {xs : List EV} {vs : List V}, RpL K mg Hd eh H xs vs → RpK K mg Hd eh H (ks.zip xs) (ks.zip vs)
  | [], _, _, _ => by simp [RpK]
  | _ :: _, [], vs, r => by cases r; simp [RpK]
  | k :: ks, x :: xs, vs, ⟨v, r, e, h1, h2⟩ => by subst e; exact ⟨v, _, rfl, h1, rpK_zip h2⟩
theorem re_disp {E : XK} {pos : Pos} {keys : List (Option Expr)} {values : List Expr} {ks : List Str} {t : MA} (h : DispR X E pos keys values ks t) (hs : keys.all (·.isSome) = true := by rfl) (hl : keys.length = values.length := by rfl) (hne : keys ≠ [] := by simp) (h15 : keys.length ≤ 15 := by decide) (hk : ks.length ≤ 15 := by decide) (hn : ks.Nodup := by decide) :
    PE X (.Dict keys values pos) (U X.K X.mg E (mDisp ks t)) := by
  obtain ⟨trs, pp, g⟩ := h
  refine PE.imp (pe_disp pp hs hl hne h15) fun σ H Q ⟨Hd, es, eh, xc, q, R, xo, m, kk⟩ p hp => ?_
  have R0 : Rh X.K X.mg Hd (eupd eh p (some (.dct []))) (upd H p (.dK [])) := R.obj.new (eo := .dct []) hp ⟨[], upd_same, rfl⟩
  refine g σ _ _ ⟨Hd, es, _, xc, _, R.step (.new hp) R0, xo.step (.new hp), m p (R.obj.fresh hp), fun eh2 H2 xs vs s2 R2 r2 ⟨e1, hx, m2⟩ => ?_⟩
  obtain ⟨us, h2, t2⟩ := R2.ob p _ e1
  cases t2
  have hv : vs.length = ks.length := by rw [← r2.length, hx]
  refine ⟨h2, (ks.map Sum.inr).zip vs, ?_, by simp; omega, ?_⟩
  · rw [List.zip_map_left, List.map_map]; rfl
  · have nd : ((([] : List (Key × V)) ++ (ks.map (Sum.inr : Str → Key)).zip vs).map (·.1)).Nodup := by
      rw [List.nil_append, List.map_fst_zip (by simp; omega)]
      exact List.Pairwise.map (R := (· ≠ ·)) (S := (· ≠ ·)) (Sum.inr : Str → Key) (fun a b h e => h (Sum.inr.inj e)) hn
    rw [mergeK_app _ _ nd, List.nil_append]
    have st : Step eh2 H2 (eupd eh2 p (some (.dct ((ks.map Sum.inr).zip xs)))) (upd H2 p (.dK ((ks.map Sum.inr).zip vs))) := .write R2 e1
    exact kk _ _ (.ref p) (.ref p) ((Step.new hp).trans (s2.trans st)) (.write R2 e1 ⟨_, upd_same, rpK_zip (r2.step st)⟩) rfl m2
end
end VM

/-! VMX0: an own exception class over another own one over ValueError, whose inherited __init__(self, value) says super().__init__(value) and self.value = value: what its run leaves. -/
namespace VM
open PySem PySem.Spec PyProof.Rows L2
/-- no class of another's is laid -/
def StO (h : Heap) : Prop := ∃ o, h.get? cStatics = some o ∧ PySem.W.nsIn [(cStatics, o)] cStatics "thirdparty.any" = some none
theorem StO.keeps {h h' : Heap} (s : StO h) (k : ∀ b o, h.get? b = some o → h'.get? b = some o) : StO h' := let ⟨o, a, b⟩ := s; ⟨o, k _ _ a, b⟩
theorem StO.looks {M : Model} {h : Heap} {C : Addr} (s : StO h) : PySem.W.Looks M h (opaqueClassAbove (.ref C)) none := by
  obtain ⟨o, a, b⟩ := s
  refine PySem.W.looks_opaque (K := [(cStatics, o)]) (fun c u e => ?_) b
  rw [List.lookup_cons] at e
  split at e
  · rename_i q; cases e; rw [beq_iff_eq.mp q]; exact a
  · cases e
/-- the two statements -/
def InitForm (qual : Str) (body : List Stmt) (scope : Scope) : Prop := ∃ p0 p1 p2 p3 p4 p5 p6 p7 p8 p9, body = [.Expr (.Call (.Attribute (.Call (.Name "super" p0) [] [] p1) "__init__" p2) [.Name "value" p3] [] p4) p5, .Assign [.Attribute (.Name "self" p6) "value" p7] (.Name "value" p8) p9] ∧
    ∀ (L : Addr) (a : Addr) (cd : Value) (cc : Addr), (∃ pl : Sem Bool, eval (.Call (.Attribute (.Call (.Name "super" p0) [] [] p1) "__init__" p2) [.Name "value" p3] [] p4) (PySem.W.ksEnv qual scope L a cd cc) = (do
        let ov ← attributeBase (.Call (.Name "super" p0) [] [] p1) "__init__" (PySem.W.ksEnv qual scope L a cd cc) (eval (.Call (.Name "super" p0) [] [] p1) (PySem.W.ksEnv qual scope L a cd cc))
        standAt p2.atName
        let (fn, ahead) ← holding [ov] (getMethod ov "__init__" pl)
        callWith p4 fn ahead (backTo p4 (starEach [.Name "value" p3] (PySem.W.ksEnv qual scope L a cd cc))) [])) ∧
      swapsWith (.Call (.Attribute (.Call (.Name "super" p0) [] [] p1) "__init__" p2) [.Name "value" p3] [] p4) none p5.line (PySem.W.ksEnv qual scope L a cd cc) = pure false ∧
      swapsWith (.Name "value" p8) (some (.Attribute (.Name "self" p6) "value" p7)) p9.line (PySem.W.ksEnv qual scope L a cd cc) = pure false ∧ interactive (PySem.W.ksEnv qual scope L a cd cc) = false
/-- the def: its object, its code object, its cell (the class that holds it) -/
structure SInit (K : PySem.W.Frag) (P : Program) (mg : Str → Option Value) (f : Addr) (fd : FuncData) (D : Addr) (qual : Str) (params : Arguments) (body : List Stmt) (scope : Scope) : Prop where
  ex : ∃ (oc ccl cl : Value) (od cdd cld : Option Addr) (dV kV doc pm ct : Value) (an : Option Addr) (osl ccs csl : Array (Option Value)) (cc cda : Addr) (vs : Array Value) (tf : Tok) (ar : Arg) (cdD : ClassData),
    fd = PySem.W.ksFn "__init__" qual params body scope dV kV doc pm an (.ref cda) ct cc ∧ K.lookup f = some ⟨oc, od, .func fd, osl⟩ ∧ PySem.W.codeIn K (.ref cda) qual = true ∧
    K.lookup cda = some ⟨ccl, cdd, .fields vs, ccs⟩ ∧ vs[2]? = some (.str P.main.file tf) ∧ K.lookup cc = some ⟨cl, cld, .cell (some (.ref D)), csl⟩ ∧ PySem.W.clsIn K D = some cdD ∧
    (params.posonlyargs ++ params.args).head? = some ar ∧ ar.arg = "self"
  top : (P.main.scope.names.lookup ("super" : Str)).isSome = false
  sup : mg "super" = none
  ks : scope.names.lookup ("super" : Str) = some .globalImplicit
  kc : scope.names.lookup ("__class__" : Str) = some .free
  k1 : scope.names.lookup ("self" : Str) = some .local
  k2 : scope.names.lookup ("value" : Str) = some .local
  cell : ∀ x ∈ scope.names, x.2 ≠ .cell
  co : scope.isCoroutine = false
  gen : scope.isGenerator = false
  kind : scope.kind = .function
  bd : InitForm qual body scope
/-- a class whose instances it makes -/
structure SCls (K : PySem.W.Frag) (C D : Addr) : Prop where
  o : OexC K C
  sub : PySem.W.mroIn K C (.ref D) = some true
  sup : PySem.W.ks_superIn K C D "__init__" = some (some (.builtin "ValueError.__init__"))
  ve : PySem.W.subIn K (.ref C) (.type "ValueError") = some true
  ini : PySem.W.excInitIn K C [.type "ValueError", .type "Exception", .type "BaseException", .type "object"] "ValueError.__new__" = true
  no : PySem.W.findIn K (.ref C) "value" = some none
section
variable {K : PySem.W.Frag} {P : Program} {w : World} {mg : Str → Option Value} {B : Heap} {A : Around} {s : Shared} {f C D e t0 : Addr} {fd : FuncData} {qual : Str} {params : Arguments} {body : List Stmt} {scope : Scope} {u : Value} {args : Args} {R : Result → Shared → Prop}
theorem sinit_code (S : SInit K P mg f fd D qual params body scope) (T : SCls K C D) (M : L2.Mod K mg B) (st : StO B) (kB : ∀ b o, B.get? b = some o → s.heap.get? b = some o) (eB : B.get? e = none) (he : s.heap.get? e = some (PySem.HandSPX.excO C t0)) (ro : A.depth < recursionLimit)
    (bi : BindsTo s fd args [("self", .ref e), ("value", u)])
    (k : ∀ h' tk dx t1, (∀ b o, b ≠ e → s.heap.get? b = some o → h'.get? b = some o) → h'.get? e = some ({ cls := .ref C, dict := some dx, data := .fields #[.ref t1, .none, .none, .none, .bool false, .none] } : Obj) → s.heap.objs.size ≤ dx → dx ≠ e →
      h'.Ns1 dx (fun y => if y = "value" then some u else none) → R (.ok (.ret .none)) ⟨h', s.gens, s.drawn, tk, s.os⟩) : codeAny (model P w) A (.call (.ref f) args) R s := by
  obtain ⟨oc, ccl, cl, od, cdd, cld, dV, kV, doc, pm, ct, an, osl, ccs, csl, cc, cda, vs, tf, ar, cdD, rfl, lk, hcd, lkc, hvs, lkcell, hD, hp, har⟩ := S.ex
  obtain ⟨p0, p1, p2, p3, p4, p5, p6, p7, p8, p9, rfl, form⟩ := S.bd
  obtain ⟨⟨pl, f1⟩, f2, f3, f4⟩ := form s.heap.objs.size f (.ref cda) cc
  have KB := M.kin
  have KS : K.In s.heap := KB.keeps kB
  have elt := Heap.lt_size he
  refine PySem.ks_codeAny_call_defAt ro (KS _ _ lk) rfl (M.nolimit.keeps kB) (PySem.W.codeRec_of KS hcd) rfl bi S.cell (fun x hx => ?_) (fun h1 n1 k1 => ?_) S.co S.gen S.kind
  · simp only [List.mem_cons, List.not_mem_nil, or_false] at hx
    rcases hx with rfl | rfl
    · exact S.k1
    · exact S.k2
  have X1 : K.In h1 := KS.keeps k1
  have kB1 : ∀ b o, B.get? b = some o → h1.get? b = some o := fun b o q => k1 b o (kB b o q)
  obtain ⟨oD, lkD, dD⟩ : ∃ oD, K.lookup D = some oD ∧ oD.data = .cls cdD := by
    unfold PySem.W.clsIn at hD
    split at hD
    · rename_i q; cases hD; exact ⟨_, q, rfl⟩
    · cases hD
  have Kg : K.In (PySem.W.hideAll s.heap [e]) := fun b o q => PySem.W.hideAll_get [e] (KS b o q) fun z => by
    rw [List.mem_singleton.mp z] at q
    have := KB _ _ q
    rw [eB] at this; cases this
  have F1 : PyProof.Rows.Fr (PySem.W.hideAll s.heap [e]) s.heap.objs.size h1 _ := ⟨n1, fun b o q => k1 b o (PySem.W.of_hideAll _ q), Nat.le_of_eq (PySem.W.hideAll_size _ _)⟩
  have N1 : News (PySem.W.hideAll s.heap [e]) s.heap.objs.size h1 [(e, PySem.W.excObj C t0 none .none)] := fun p hp => by
    cases List.mem_singleton.mp hp
    exact ⟨k1 _ _ he, Nat.ne_of_lt elt, PySem.W.hideAll_none _ (List.mem_singleton.mpr rfl)⟩
  have I1 := PySem.W.InstAt.of_exc0 N1 (List.mem_singleton.mpr rfl)
  obtain ⟨mb, nb, eb⟩ := M.blt
  apply ks_wpAt_execs_cons
  refine ks_wpAt_Expr_any ?_ f4 f2
  refine ks_wpAt_MethodCall (pl := pl) ?_ f1
  refine ks_wpAt_super_base (f := f) (cc := cda) S.ks S.kc rfl rfl (X1 _ _ lk) rfl hp rfl (X1 _ _ lkc) rfl hvs (beq_self_eq_true _) S.top ?_
  refine PySem.W.ks_loadName_global S.kind S.ks (Calls.loadGlobal_builtin (M.glob.keeps kB1) S.sup (nb.keeps kB1) (eb "super" (by decide)) ⟨rfl, ?_⟩)
  refine wpAny_loadName_free S.kind S.kc rfl ⟨_, X1 _ _ lkcell, rfl⟩ ?_
  rw [har]
  refine wpAny_loadName_local S.kind S.k1 n1 rfl ?_
  refine ks_wpAny_isType_cls (X1 _ _ lkD) dD ⟨rfl, ?_⟩
  refine ks_wpAny_call_super (X1 _ _ lkD) dD I1.at_ I1.cls (fun c z => by cases z) (PySem.W.looks_mroIn X1 T.sub) fun h2 so k2 => ?_
  obtain ⟨F2, N2, l2⟩ := PySem.W.ks_newsPush (s := ⟨h1, s.gens, s.drawn, s.toks + 2, s.os⟩) F1 N1 rfl so k2
  have X2 : K.In h2 := X1.keeps k2
  have st2 : StO h2 := (st.keeps kB1).keeps k2
  have I2 := PySem.W.InstAt.of_exc0 N2 (List.mem_cons_of_mem _ (List.mem_cons_self ..))
  obtain ⟨nm0, qq0, NN0, bs0, bm0, sn0, sub0, ab0, col0, dd0, j0, j1, j2, j3, j5, hC0, _⟩ := T.o.cls
  have hcl0 : PySem.W.clsIn K C = some ⟨nm0, bs0, .ref C :: bm0, NN0, qq0, true, sn0, sub0, ab0, col0, false⟩ := by unfold PySem.W.clsIn; rw [hC0] <;> rfl
  have sup := T.sup
  unfold PySem.W.ks_superIn at sup
  rw [hcl0] at sup
  have isVE : PySem.W.Looks (model P w) h2 (isInstance (.ref e) (.type "ValueError")) true := I2.type.andThen (PySem.W.looks_subIn X2 T.ve)
  refine PySem.W.kxs_getMethod (so := h1.objs.size) (D := D) PySem.W.kxs_ValueError (N2 _ (List.mem_cons_self ..)).1 st2.looks (l₀ := .ref C :: bm0) ((PySem.W.looks_clsIn X2 hcl0).andThen .now) rfl X2 sup isVE (PySem.W.ks_ne X2 I2 hcl0) rfl ?_
  obtain ⟨F3, N3, l3⟩ := PySem.W.ks_newsPush (s := ⟨h2, s.gens, s.drawn, s.toks + 2, s.os⟩) (o := PySem.W.kxs_mw "ValueError.__init__" e) F2 N2 rfl (Heap.get?_push_at rfl rfl) (fun b o z => Heap.get?_push_of_some _ z)
  refine PySem.W.kxs_callWith1 N3 (List.mem_cons_self ..) ?_
  refine Calls.spliced_cons (PySem.ESX.ldL F3.ns rfl ?_ S.kind S.k2)
  refine Calls.spliced_nil ⟨PySem.W.kxs_at N3 (List.mem_cons_self ..), ?_⟩
  refine PySem.W.kxs_call F3 Kg N3 F.excBase_ValueError T.ini (List.mem_cons_self ..) (C := C) (t := t0) (dv := none) (c2 := .none) (.tail (Nat.ne_of_gt (l3 _ (List.mem_cons_of_mem _ (List.mem_cons_self ..)))) (.tail (Nat.ne_of_gt (l2 _ (List.mem_cons_self ..))) (.head fun _ z => nomatch z))) (by rw [sizeLine_eq]; show 1 ≤ _; omega) fun t1 h4 F4 N4 l4 => ?_
  have e4 : (e, PySem.W.excObj C t1 none .none) ∈ [(t1, PySem.W.excTup [u]), (h2.objs.size, PySem.W.kxs_mw "ValueError.__init__" e), (h1.objs.size, PySem.W.ks_superObj D e C), (e, PySem.W.excObj C t1 none .none)] := by simp
  have X4 : K.In h4 := Kg.keeps F4.keep
  have I4 := PySem.W.InstAt.of_exc0 N4 e4
  obtain ⟨nm, qq, NN, bs, bm, sn, sub, ab, col, dd, k0, k11, k22, k33, k5, hC, hbm⟩ := T.o.cls
  have hcl : PySem.W.clsIn K C = some ⟨nm, bs, .ref C :: bm, NN, qq, true, sn, sub, ab, col, false⟩ := by unfold PySem.W.clsIn; rw [hC] <;> rfl
  refine ks_wpAt_execs_cons (wpAt_of_wpAny (plainObj_wpAny_Assign_Attribute ?_ f3))
  refine PySem.ESX.ldL F4.ns rfl (PySem.ESX.ldL F4.ns rfl ?_ S.kind S.k1) S.kind S.k2
  refine PySem.W.set_plain X4 I4 T.o.sa ?_
  refine PySem.HandSPX.exc_osa X4 I4.at_ hcl hbm rfl T.no fun h5 tk dx k5' dn dne hx5 hn5 => ?_
  refine wpAt_of_wpAny (wpAny_execs_nil ?_)
  refine k h5 tk dx t1 (fun b o hb ho => k5' b o hb (F4.keep b o (PySem.W.hideAll_get [e] ho fun z => hb (List.mem_singleton.mp z)))) hx5 (Nat.le_trans (Nat.le_of_lt F4.ns.lt) dn) dne hn5
end
end VM
namespace VM
open PySem PySem.Spec PyProof.Rows L2
/-- what the def does to an exception that is being made -/
def spSI (K : PySem.W.Frag) (D : Addr) : Sp := fun vs H Q _ => ∃ a C v, vs = [.ref a, v] ∧ SCls K C D ∧ H a = some (exo a C none) ∧ ∀ dx, H dx = none → dx ≠ a → Q .non (upd (upd H dx (exd dx [("value", v)])) a (exo a C (some dx)))
theorem sinit_ok {P : Program} {w : World} {K : PySem.W.Frag} {mg : Str → Option Value} {B : Heap} {CX : CXT} {f D : Addr} {fd : FuncData} {qual : Str} {params : Arguments} {body : List Stmt} {scope : Scope} (S : SInit K P mg f fd D qual params body scope) (st : StO B) :
    FnOk P w K mg B CX 1 f fd ["self", "value"] (spSI K D) := by
  constructor
  · rintro vs H Q E ⟨a, C, v, rfl, _⟩; rfl
  · rintro A outer s H args us vs Q E hr e0 bi rv ⟨a, C, v, rfl, T, ha, kk⟩
    obtain ⟨u0, us1, rfl, r0, rv⟩ : ∃ u0 us1, us = u0 :: us1 ∧ RelV (.ref a) u0 ∧ Vals [v] us1 := by cases rv; exact ⟨_, _, rfl, ‹_›, ‹_›⟩
    obtain ⟨u, us2, rfl, ru, rv⟩ : ∃ u us2, us1 = u :: us2 ∧ RelV v u ∧ Vals [] us2 := by cases rv; exact ⟨_, _, rfl, ‹_›, ‹_›⟩
    cases rv
    obtain rfl : u0 = .ref a := r0
    obtain ⟨t0, he⟩ := exo_at e0.hok ha
    have kB : ∀ b o, B.get? b = some o → s.heap.get? b = some o := fun b o q => (e0.bs b o q).1
    have eB : B.get? a = none := by
      cases q : B.get? a with
      | none => rfl
      | some o => have := (e0.bs a o q).2; rw [ha] at this; cases this
    refine sinit_code S T e0.mod st kB eB he hr.depth bi fun h' tk dx t1 k hx dn dne hn => ?_
    have hnd : H dx = none := e0.hok.fresh dn
    have old : ∀ {b o}, s.heap.get? b = some o → b ≠ dx := fun {b o} q => Nat.ne_of_lt (Nat.lt_of_lt_of_le (Heap.lt_size q) dn)
    have out : ∀ {b : Addr} {z : HO}, b ≠ a → b ≠ dx → upd (upd H dx (exd dx [("value", v)])) a (exo a C (some dx)) b = H b := fun {b z} h1 h2 => by rw [upd_ne h1, upd_ne h2]
    have nA : ∀ {b : Addr}, H b = none → b ≠ a := fun {b} q z => by rw [z, ha] at q; cases q
    have keep : ∀ {b z}, H b = some z → z ≠ exo a C none → upd (upd H dx (exd dx [("value", v)])) a (exo a C (some dx)) b = some z := fun {b z} q n => by
      rw [upd_ne (at_ne ha q fun h => n h.symm), upd_ne (ne_of_none q hnd)]; exact q
    refine ⟨.non, _, rfl, e0.bare, ?_, ?_, rfl, kk dx hnd dne⟩
    · constructor
      · exact fun b o q n _ _ => k b o (nA n) q
      · exact fun b o q n _ _ => ⟨o.slots, k b o (nA n) q⟩
      · exact fun b o q n _ => by rw [upd_ne (nA n), upd_ne (old q)]; exact n
      · intro b o q _
        rcases Decidable.em (b = a) with z | z
        · exact ⟨_, z ▸ hx⟩
        · exact ⟨o, k b o z q⟩
      · exact fun b xs q => keep q fun z => exo_tup z.symm
      · exact fun b o z q => keep q fun y => exo_frz y.symm
      · exact fun b ps q => ⟨#[], by rw [keep q fun z => exo_tbl z.symm]; simp⟩
    · intro b o q
      rcases Decidable.em (b = a) with z | z
      · subst z
        rw [upd_same] at q; cases q
        exact exo_ok hx
      · rw [upd_ne z] at q
        rcases Decidable.em (b = dx) with y | y
        · subst y
          rw [upd_same] at q; cases q
          exact exd_ok hn (relO_put (fs := []) ru fun g => True.intro)
        · rw [upd_ne y] at q
          refine (e0.hok b o q).stay (fun c z' hc q' => k c z' (fun y' => ?_) q') (fun c q' => keep q' fun y' => exo_own y'.symm) (fun c xs q' => keep q' fun y' => exo_tup y'.symm)
          rcases hc with hc | hc
          · exact z (hc ▸ y')
          · rw [y', ha] at hc; exact exo_own (Option.some.inj hc)
end VM

/-! VMX1: such an exception made with its value by keyword; exceptions held as values. -/
namespace PySem
namespace XKw
open PySem.W PySem.Calls PyProof.Rows PySem.HandSPX
section
variable {M : Model} {A : Around} {E : Value → Shared → Prop} {h : Heap} {g : Array GenState} {d : Drawn} {t : Nat} {os : OsState}
variable {nm q : Str} {C N : Addr} {bs bm : List Value} {hdct : Bool} {sn : List Str} {sub : List Value} {ab : Bool} {col : Option Bool} {dd : Option Addr} {k0 k1 k2 k3 k5 : Option Value} {u : Value}
theorem kw_check {Q : Unit → Shared → Prop} (hm : refsVE bm = true) (hC : h.get? C = some (excClassObj nm q C N bs bm hdct sn sub ab col dd k0 k1 k2 k3 k5 "ValueError.__new__")) (z : Q () ⟨h, g, d, t, os⟩) :
    wpAny M A (checkBuiltinCall "ValueError.__new__" ⟨[.ref C], [("value", u)]⟩) Q E ⟨h, g, d, t, os⟩ := by
  have F := PySem.F.excBase_ValueError
  have c1 : (Value.ref C :: bm).contains (.type "ValueError") = true := by rw [List.contains_cons, refsVE_contains "ValueError" bm hm]; exact (Bool.or_eq_true _ _).mpr (.inr (by decide +kernel))
  have st := F.noStar
  simp only [checkBuiltinCall, F.newKind, F.newSplit, F.newRow]
  repeat (first
    | with_reducible apply wpAny_loadPart_at hC
    | (apply wpAny_isSubtype_exc hC; rw [c1])
    | apply wpAny_staticBase_exc hC
    | apply wpAny_madeBy_exc hC
    | simp only [bne_self_eq_false, Bool.false_eq_true, if_false]
    | wp_step)
  exact z
end
section
variable {prog : Program} {w : World} {A : Around} {E : Value → Shared → Prop} {R : Result → Shared → Prop} {h : Heap} {g : Array GenState} {d : Drawn} {t : Nat} {os : OsState}
variable {nm q : Str} {C N fI : Addr} {bs bm : List Value} {hdct : Bool} {sn : List Str} {sub : List Value} {ab : Bool} {col : Option Bool} {dd : Option Addr} {k0 k1 k2 k3 k5 : Option Value} {u : Value}
theorem kw_new (hm : refsVE bm = true) (hC : h.get? C = some (excClassObj nm q C N bs bm hdct sn sub ab col dd k0 k1 k2 k3 k5 "ValueError.__new__"))
    (z : R (.ok (.ret (.ref (h.objs.size + 1)))) ⟨(h.push (kdv_tup [])).push (excO C h.objs.size), g, d, t, os⟩) : codeAny (model prog w) A (.builtin "ValueError.__new__" ⟨[.ref C], [("value", u)]⟩) R ⟨h, g, d, t, os⟩ := by
  have F := PySem.F.excBase_ValueError
  have e0 := F.ends
  have inn : ∀ X : String, veTail.contains (.type X) = true → (Value.ref C :: bm).contains (.type X) = true := fun X y => by rw [List.contains_cons, refsVE_contains X bm hm, y, Bool.or_true]
  have out : ∀ X : String, veTail.contains (.type X) = false → (Value.ref C :: bm).contains (.type X) = false := fun X y => by rw [List.contains_cons, refsVE_contains X bm hm, y]; rfl
  have c1 := inn "ValueError" (by decide +kernel)
  have c2 := out "AttributeError" (by decide +kernel)
  have c3 := out "NameError" (by decide +kernel)
  apply codeAny_builtinAt F.entry
  unfold Builtin.«BaseException.__new__»
  apply wpAt_bind
  show wpAt _ _ _ (stack >>= _) _ _ _
  apply wpAt_bind
  refine wpAt_stack fun p below => wpAt_of_wpAny ?_
  wp_walk
  apply wpAt_of_wpAny
  rw [F.owner]
  repeat (first
    | with_reducible apply wpAny_madeHere_exc F.canon hC
    | with_reducible apply wpAny_loadPart_at hC
    | (with_reducible apply wpAny_isSubtype_exc hC; first | rw [c1] | rw [c2] | rw [c3])
    | wp_step)
  show R _ _
  rw [Heap.size_push]
  exact z
theorem kw_type (hm : refsVE bm = true) (hC : h.get? C = some (excClassObj nm q C N bs bm hdct sn sub ab col dd k0 k1 k2 k3 k5 "ValueError.__new__")) {Q : Fin → Shared → Prop}
    (hi : Looks (model prog w) h (typeLookup (.ref C) "__init__") (some (.ref fI))) (hb : ∀ self, Looks (model prog w) h (bindSpecial (.ref fI) self) (.ref fI, [self]))
    (z : codeAny (model prog w) A (.call (.ref fI) ⟨[.ref (h.objs.size + 1)], [("value", u)]⟩)
      (fun r s' => match r with | .ok (.ret v) => v = .none ∧ Q (.done (.ret (.ref (h.objs.size + 1)))) s' | .ok _ => False | .error e => E e s') ⟨(h.push (kdv_tup [])).push (excO C h.objs.size), g, d, t, os⟩) :
    wpAny (model prog w) A (Builtin.«type.__call__» ⟨[.ref C], [("value", u)]⟩) Q E ⟨h, g, d, t, os⟩ := by
  repeat (first | with_reducible apply wpAny_loadPart_at hC | with_reducible apply wpAny_madeBy_exc hC | wp_step)
  refine codeAny_call_builtin_code (Code.quiet_builtin _ PySem.F.excBase_ValueError.quiet) (kw_check hm hC ?_)
  refine kw_new hm hC ?_
  show wpAny _ _ _ _ _ _
  have up : ∀ b o, h.get? b = some o → ((h.push (kdv_tup [])).push (excO C h.objs.size)).get? b = some o := fun b o y => Heap.get?_push_of_some _ (Heap.get?_push_of_some _ y)
  have C1 := up _ _ hC
  have e1 : ((h.push (kdv_tup [])).push (excO C h.objs.size)).get? (h.objs.size + 1) = some (excO C h.objs.size) := by heap_get
  have cc : (Value.ref C :: bm).contains (.ref C) = true := by simp
  have i1 := hi.keeps up
  have b1 := (hb (.ref (h.objs.size + 1))).keeps up
  unfold isInstance
  repeat (first | with_reducible apply wpAny_loadPart_at e1 | (with_reducible apply wpAny_isSubtype_exc C1; rw [cc]) | wp_step)
  show wpAny _ _ (typeLookup (.ref C) _) _ _ _
  apply i1.at
  refine wpAny_holding (wpAny_bind (b1.at ?_))
  refine wpAny_bind (wpAny_call (codeAny_mono z fun r s' y => ?_))
  rcases r with e | (v | _ | _ | _)
  · exact y
  · exact y.elim
  · exact y.elim
  · exact y.elim
  · obtain ⟨rfl, y⟩ := y
    first
      | exact wpAny_pure (wpAny_pure y)
      | (wp_walk; exact y)
theorem kw_call (hm : refsVE bm = true) (hC : h.get? C = some (excClassObj nm q C N bs bm hdct sn sub ab col dd k0 k1 k2 k3 k5 "ValueError.__new__"))
    (hi : Looks (model prog w) h (typeLookup (.ref C) "__init__") (some (.ref fI))) (hb : ∀ self, Looks (model prog w) h (bindSpecial (.ref fI) self) (.ref fI, [self]))
    (z : codeAny (model prog w) (A.under (.builtin "type.__call__" ⟨[.ref C], [("value", u)]⟩)) (.call (.ref fI) ⟨[.ref (h.objs.size + 1)], [("value", u)]⟩) (InitBack (h.objs.size + 1) R) ⟨(h.push (kdv_tup [])).push (excO C h.objs.size), g, d, t, os⟩) :
    codeAny (model prog w) A (.call (.ref C) ⟨[], [("value", u)]⟩) R ⟨h, g, d, t, os⟩ := by
  have f1 := tc_lookup
  have f2 := tc_bind (.ref C)
  have ty : (⟨h, g, d, t, os⟩ : Shared).TypeIs (.ref C) "type" := ⟨_, hC, rfl⟩
  apply codeAny_of_tree
  show wpAny _ _ (callAny (.ref C) _) _ _ _
  repeat (any_goals (first | assumption | with_reducible apply wpAny_loadPart_at hC | wp_step))
  refine ⟨rfl, ?_⟩
  refine codeAny_call_builtin_at (Code.quiet_builtin _ (by decide +kernel)) entry_typeCall (wpAny_check_type_call_sub hC (kw_type hm hC hi hb ?_))
  refine codeAny_mono z fun r s' y => ?_
  rcases r with e | (v | _ | _ | _) <;> exact y
end
end XKw
end PySem

/-! VMX2: exceptions as values: made, asked by isinstance, their field value. -/
namespace VM
open PySem PySem.Spec PyProof.Rows L2
/-! ### what a class must say, as a check -/
def oexB (K : PySem.W.Frag) (C : Addr) : Bool := match K.lookup C with
  | some ⟨.type t, _, .cls cd, sl⟩ => (t == "type") && ((match cd.mro with | .ref c :: bm => c == C && PySem.HandSPX.refsVE bm | _ => false) && (cd.hasDict && (!cd.hasDel && (match sl.toList with | [_, _, _, _, some (.builtin b), _] => b == "ValueError.__new__" | _ => false))))
  | _ => false
theorem oexB_ok {K : PySem.W.Frag} {C : Addr} (h : oexB K C = true) : ∃ nm q N bs bm sn sub ab col dd k0 k1 k2 k3 k5, K.lookup C = some (excClassObj nm q C N bs bm true sn sub ab col dd k0 k1 k2 k3 k5 "ValueError.__new__") ∧ PySem.HandSPX.refsVE bm = true := by
  unfold oexB at h
  split at h
  · rename_i t dd cd sl e
    obtain ⟨h1, h⟩ := He.ba h
    obtain ⟨h2, h⟩ := He.ba h
    obtain ⟨h3, h⟩ := He.ba h
    obtain ⟨h4, h5⟩ := He.ba h
    split at h2 <;> try cases h2
    rename_i c bm em
    split at h5 <;> try cases h5
    rename_i k0 k1 k2 k3 b k5 es4
    obtain ⟨g1, g2⟩ := He.ba h2
    have ct : t = "type" := by simpa using h1
    have cC : c = C := by simpa using g1
    have cb : b = "ValueError.__new__" := by simpa using h5
    subst ct cC cb
    have sle : sl = #[k0, k1, k2, k3, some (.builtin "ValueError.__new__"), k5] := by
      have := congrArg List.toArray es4
      simpa using this
    obtain ⟨nm, bs, mro, N, q, hd, sn, sub, ab, col, hdel⟩ := cd
    simp only at em h3 h4
    have hdf : hdel = false := by simpa using h4
    subst em sle hdf h3
    exact ⟨nm, q, N, bs, bm, sn, sub, ab, col, dd, k0, k1, k2, k3, k5, e, g2⟩
  · cases h
/-- instances' fields and class -/
structure XIs (K : PySem.W.Frag) (C : Addr) : Prop where
  ga : PySem.W.findIn K (.ref C) "__getattribute__" = some (some (.builtin "BaseException.__getattribute__"))
  gg : PySem.W.findIn K (.ref C) "__getattr__" = some none
  be : PySem.W.subIn K (.ref C) (.type "BaseException") = some true
  hd : PySem.W.hasDictIn K C = true
  no : PySem.W.findIn K (.ref C) "value" = some none
  cl : PySem.W.findIn K (.ref C) "__class__" = some (some (.builtin "object.__class__"))
  gs : PySem.W.specialIn K (.builtin "object.__class__") "__get__" = some (some (.builtin "getset_descriptor.__get__"))
  tk : PySem.W.takesIn K (.builtin "object.__class__") = some true
  ob : PySem.W.mroIn K C (.type "object") = some true
  ve : PySem.W.kitOne K (.ref C) (.type "ValueError") = some true
def xisB (K : PySem.W.Frag) (C : Addr) : Bool :=
  He.eqO (PySem.W.findIn K (.ref C) "__getattribute__") (some (some (.builtin "BaseException.__getattribute__"))) && (He.eqO (PySem.W.findIn K (.ref C) "__getattr__") (some none) && (decide (PySem.W.subIn K (.ref C) (.type "BaseException") = some true) && (PySem.W.hasDictIn K C &&
  (He.eqO (PySem.W.findIn K (.ref C) "value") (some none) && (He.eqO (PySem.W.findIn K (.ref C) "__class__") (some (some (.builtin "object.__class__"))) && (He.eqO (PySem.W.specialIn K (.builtin "object.__class__") "__get__") (some (some (.builtin "getset_descriptor.__get__"))) &&
  (decide (PySem.W.takesIn K (.builtin "object.__class__") = some true) && (decide (PySem.W.mroIn K C (.type "object") = some true) && decide (PySem.W.kitOne K (.ref C) (.type "ValueError") = some true)))))))))
theorem xisB_ok {K : PySem.W.Frag} {C : Addr} (h : xisB K C = true) : XIs K C := by
  obtain ⟨c1, h⟩ := He.ba h
  obtain ⟨c2, h⟩ := He.ba h
  obtain ⟨c3, h⟩ := He.ba h
  obtain ⟨c4, h⟩ := He.ba h
  obtain ⟨c5, h⟩ := He.ba h
  obtain ⟨c6, h⟩ := He.ba h
  obtain ⟨c7, h⟩ := He.ba h
  obtain ⟨c8, h⟩ := He.ba h
  obtain ⟨c9, c10⟩ := He.ba h
  exact ⟨He.eqO_ok c1, He.eqO_ok c2, of_decide_eq_true c3, c4, He.eqO_ok c5, He.eqO_ok c6, He.eqO_ok c7, of_decide_eq_true c8, of_decide_eq_true c9, of_decide_eq_true c10⟩
def sclsB (K : PySem.W.Frag) (C D : Addr) : Bool :=
  oexB K C && (He.eqO (PySem.W.findIn K (.ref C) "__setattr__") (some (some (.builtin "object.__setattr__"))) && (decide (PySem.W.typeIn K (.ref C) = some (.type "type")) && (PySem.W.keepIn K (.ref C) &&
  (decide (PySem.W.mroIn K C (.ref D) = some true) && (He.eqO (PySem.W.ks_superIn K C D "__init__") (some (some (.builtin "ValueError.__init__"))) && (decide (PySem.W.subIn K (.ref C) (.type "ValueError") = some true) &&
  (PySem.W.excInitIn K C [.type "ValueError", .type "Exception", .type "BaseException", .type "object"] "ValueError.__new__" && xisB K C)))))))
theorem sclsB_ok {K : PySem.W.Frag} {C D : Addr} (h : sclsB K C D = true) : SCls K C D ∧ XIs K C := by
  obtain ⟨c1, h⟩ := He.ba h
  obtain ⟨c2, h⟩ := He.ba h
  obtain ⟨c3, h⟩ := He.ba h
  obtain ⟨c4, h⟩ := He.ba h
  obtain ⟨c5, h⟩ := He.ba h
  obtain ⟨c6, h⟩ := He.ba h
  obtain ⟨c7, h⟩ := He.ba h
  obtain ⟨c8, c10⟩ := He.ba h
  have x := xisB_ok c10
  exact ⟨⟨⟨oexB_ok c1, He.eqO_ok c2, x.be, of_decide_eq_true c3, c4⟩, of_decide_eq_true c5, He.eqO_ok c6, of_decide_eq_true c7, c8, x.no⟩, x⟩
/-! ### made and held -/
theorem exh_ok {P : Program} {w : World} {H : Hp} {h : Heap} {a : Addr} {cls : Value} {d : Option Addr} {oe : Obj} {vs : Array Value} (e : h.get? a = some oe) (z : L2N.Zn cls d oe) (q : oe.data = .fields vs) : ObjOk P w H h a (exh a cls d) :=
  ⟨⟨oe, vs, e, z, q⟩, ⟨oe, e⟩, fun _ _ ⟨o, v, e1, z1, q1⟩ k => ⟨o, v, k _ e1, z1, q1⟩⟩
section
variable {X : Cx} {pins : List (Addr × Obj)} {σ : L2.St} {H : Hp} {s s' : Shared} {u : Value} {E : XK} {e : Expr} {es : List Expr} {ta : TA} {C D f : Addr} {fd : FuncData} {x : Str} {p pos kp : Pos}
theorem Inv.same (I : Inv X pins σ H s) (hh : s'.heap = s.heap) (os : s'.os = s.os) (ag : AllBare s'.gens) : Inv X pins σ H s' := by
  obtain ⟨a1, a2, a3, a4, a5⟩ := s'
  dsimp only at hh os ag
  subst hh os
  exact ⟨I.ok, I.os, ag, I.base, I.loc, I.cell, I.free, I.freeC, I.pin, I.hok, I.len⟩
theorem held_end {Q : XK} {QV : VK} (h : L2N.MkP X pins σ Q u s') (hq : ∀ cls d H' a, H' a = none → Q cls d H' → QV (.ref a) (upd H' a (exh a cls d))) : EP X pins σ QV u s' := by
  obtain ⟨a, oe, vs, sI, H', cls, d, rfl, J, k, hne, ha, hz, hd, h1, na, os, ag, r, q⟩ := h
  have J2 : Inv X pins σ (upd H' a (exh a cls d)) { sI with heap := s'.heap, toks := sI.toks } := J.laidN k hne na (exh_ok ha hz hd)
  exact ⟨.ref a, _, Inv.same J2 rfl os ag, rfl, hq _ _ _ _ na q⟩
theorem pe_held {t : L2.St → Hp → XK → Prop} (h : L2N.PMk X e t) : PE X e (fun σ H Q => t σ H fun cls d H' => ∀ a, H' a = none → Q (.ref a) (upd H' a (exh a cls d))) :=
  ⟨fun pins s σ H Q I w => wpAny_mono (h pins s σ H _ I w) (fun u s' hu => held_end hu fun cls d H' a n q => q a n) fun _ _ z => z⟩
theorem mkN_end {σ : L2.St} {H1 H2 : Hp} {Q : XK} {hp hp2 h2 : Heap} {g1 g2 : Array GenState} {d1 d2 : Drawn} {t1 t2 : Nat} {os1 os2 : OsState} {a C d : Addr} {fs : List (Str × V)} (T : Raises X (.ref C)) (I1 : Inv X pins σ H1 ⟨hp, g1, d1, t1, os1⟩)
    (ha : hp.objs.size ≤ a) (up : ∀ b o, hp.get? b = some o → hp2.get? b = some o) (un : Un (frs X.stack) [] (upd H1 a (exo a C none)) H2 hp2 h2) (hk : HOk X.prog X.w H2 h2) (eo : os2 = os1) (ag : AllBare g2)
    (ea : H2 a = some (exo a C (some d))) (ed : H2 d = some (exd d fs)) (n : H1 d = none) (q : Q (.ref C) (some d) (upd (del H2 a) d (.xd fs))) : L2N.MkP X pins σ Q (.ref a) ⟨h2, g2, d2, t2, os2⟩ := by
  obtain ⟨t0, G, J, kG, ge, at_, na⟩ := mk_end0 (d2 := d2) (t2 := t2) I1 ha up un hk eo ag ea ed n
  exact ⟨a, _, _, ⟨G, g2, d2, t2, os2⟩, _, .ref C, some d, rfl, J, kG, ge, at_, ⟨rfl, rfl, fun vs z => by cases z; rfl⟩, rfl, rfl, na, rfl, ag, T, q⟩
/-- C(v), C(value=v) -/
def tMkX (C : Addr) (ta : TA) : L2.St → Hp → XK → Prop := fun σ H Q => ta σ H fun vs H1 => ∃ v, vs = [v] ∧ ∀ dx, H1 dx = none → Q (.ref C) (some dx) (upd H1 dx (.xd [("value", v)]))
theorem spSI_run {K : PySem.W.Frag} (T : SCls K C D) {H1 : Hp} {v : V} {a : Addr} {Q : XK} (ha : H1 a = none) (q : ∀ dx, H1 dx = none → Q (.ref C) (some dx) (upd H1 dx (.xd [("value", v)]))) :
    spSI K D [.ref a, v] (upd H1 a (exo a C none)) (fun z H2 => z = .non ∧ ∃ (d : Addr) (fs : List (Str × V)), H2 a = some (exo a C (some d)) ∧ H2 d = some (exd d fs) ∧ H1 d = none ∧ Q (.ref C) (some d) (upd (del H2 a) d (.xd fs))) (fun _ _ _ => False) := by
  refine ⟨a, C, v, rfl, T, upd_same, fun dx hdx hne => ⟨rfl, dx, [("value", v)], upd_same, by rw [upd_ne hne, upd_same], by rw [upd_ne hne] at hdx; exact hdx, ?_⟩⟩
  rw [upd_ne hne] at hdx
  have e : upd (del (upd (upd (upd H1 a (exo a C none)) dx (exd dx [("value", v)])) a (exo a C (some dx))) a) dx (.xd [("value", v)]) = upd H1 dx (.xd [("value", v)]) := by
    funext b
    by_cases h1 : b = dx
    · subst h1; rw [upd_same, upd_same]
    · rw [upd_ne h1, upd_ne h1]
      by_cases h2 : b = a
      · subst h2; rw [del_same, ha]
      · rw [del_ne h2, upd_ne h2, upd_ne h1, upd_ne h2]
  rw [e]; exact q dx hdx
/-- the two ways of binding -/
structure SBind (fd : FuncData) : Prop where
  b1 : ∀ (s : Shared) (a u : Value), BindsTo s fd ⟨[a, u], []⟩ [("self", a), ("value", u)]
  b2 : ∀ (s : Shared) (a u : Value), BindsTo s fd ⟨[a], [("value", u)]⟩ [("self", a), ("value", u)]
theorem PA.wk {t : TA} (h : PA X es t) : PA X es (fun σ H Q => ∃ Qm, t σ H Qm ∧ ∀ vs H1, Qm vs H1 → Q vs H1) :=
  ⟨fun pos pins s σ H Q I ⟨Qm, w, i⟩ => wpAny_mono (h.run pos pins s σ H Qm I w) (fun us s1 ⟨xs, H1, J, r, q⟩ => ⟨xs, H1, J, r, i xs H1 q⟩) fun _ _ z => z⟩
theorem pmk_x {params : Arguments} {body : List Stmt} {scope : Scope} {qual : Str} (S : SInit X.K X.prog X.mg f fd D qual params body scope) (st : StO X.base) (B : SBind fd) (T : SCls X.K C D) (iC : PySem.W.findIn X.K (.ref C) "__init__" = some (some (.ref f))) (tI : PySem.W.typeIn X.K (.ref f) = some (.type "function"))
    (hr : RoomG 2 X.A) (hg : Gl X x) (hm : X.mg x = some (.ref C)) (ha : PA X [e] ta) (hdb : (x == ("__debug__" : Str)) = false := by decide) (he : starEach [e] X.env = (false, eval e X.env) :: starEach [] X.env := by rfl) :
    L2N.PMk X (.Call (.Name x p) [e] [] pos) (tMkX C ta) := by
  have F := sinit_ok (w := X.w) (B := X.base) (CX := CX0) S st
  obtain ⟨nm, q, N, bs, bm, sn, sub, ab, col, dd, k0, k1, k2, k3, k5, hC, hbm⟩ := T.o.cls
  intro pins s σ H Q I h
  apply wpAny_Call_Name_kw
  apply ld_glob I hg hm _ hdb
  refine PySem.W.callWith_K (h₀ := X.base) I.ok.mod.kin T.o.kC (thn (ha.run pos pins s σ H _ I h) fun us s1 ⟨vs, H1, I1, r1, v, ev, q1⟩ => ⟨I1.kIn, ?_⟩) he rfl
  subst ev
  obtain ⟨u, rfl, ru⟩ : ∃ u, us = [u] ∧ RelV v u := by
    cases r1 with
    | cons ra rr => cases rr; exact ⟨_, rfl, ra⟩
  show wpAny _ _ (call (.ref C) [u]) _ _ _
  obtain ⟨hp, g, dr, tk, os⟩ := s1
  have hz : hp.objs.size ≤ hp.objs.size + 1 := Nat.le_succ _
  have hn : H1 (hp.objs.size + 1) = none := I1.hok.fresh hz
  have up : ∀ b o, hp.get? b = some o → ((hp.push (PySem.W.kdv_tup [u])).push (PySem.HandSPX.excO C hp.objs.size)).get? b = some o := fun b o y => Heap.get?_push_of_some _ (Heap.get?_push_of_some _ y)
  have at_ : ((hp.push (PySem.W.kdv_tup [u])).push (PySem.HandSPX.excO C hp.objs.size)).get? (hp.objs.size + 1) = some (PySem.HandSPX.excO C hp.objs.size) := by heap_get
  have J := I1.laid (t' := tk) (o := exo (hp.objs.size + 1) C none) up hz (exo_ok at_)
  apply wpAny_call
  refine PySem.HandSPX.call_own PySem.F.excBase_ValueError (fun Y => PySem.HandSPX.refsVE_contains Y bm hbm) (I1.kIn _ _ hC) (PySem.W.looks_findIn I1.kIn iC) (fun self => PySem.W.bind_fn I1.kIn self tI) (by simp [sizeLine_eq]) (codeAny_mono (F.run _ X.stack _ _ _ [.ref (hp.objs.size + 1), u] [.ref (hp.objs.size + 1), v] _ (fun _ _ _ => False) (hr.r.make C [u] []) (J.env0.make C [u] []) (B.b1 _ _ _) (.cons rfl (.cons ru .nil)) (spSI_run T hn q1)) fun r s' hq => ?_)
  cases r with
  | error er => exact hq.elim
  | ok fl =>
    cases fl with
    | ret y =>
      obtain ⟨z, H2, os2, ag2, un2, hok2, rz, ez, d, fs, ea, ed, hd1, q2⟩ := hq
      subst ez
      obtain ⟨h2, g2, d2, t2, os'⟩ := s'
      exact ⟨rz, mkN_end (raises_own T.o.exC T.o.tyC) I1 hz up un2 hok2 os2 ag2 ea ed hd1 q2⟩
    | next => exact hq.elim
    | brk => exact hq.elim
    | cont => exact hq.elim
theorem pmk_xk {params : Arguments} {body : List Stmt} {scope : Scope} {qual : Str} {t : TA} (S : SInit X.K X.prog X.mg f fd D qual params body scope) (st : StO X.base) (B : SBind fd) (T : SCls X.K C D) (iC : PySem.W.findIn X.K (.ref C) "__init__" = some (some (.ref f))) (tI : PySem.W.typeIn X.K (.ref f) = some (.type "function"))
    (hr : RoomG 2 X.A) (hg : Gl X x) (hm : X.mg x = some (.ref C)) (ha : PK X [⟨some "value", e, kp⟩] t) (hdb : (x == ("__debug__" : Str)) = false := by decide) (hall : (backToKw pos (keywordEach [⟨some "value", e, kp⟩] X.env)).all (·.1.isSome) = true := by rfl)
    (hks : (backToKw pos (keywordEach [⟨some "value", e, kp⟩] X.env)).filterMap (·.1) = [("value" : Str)] := by rfl) (hpl : ((backTo pos (starEach [] X.env)).any (·.1) || (backToKw pos (keywordEach [⟨some "value", e, kp⟩] X.env)).any (·.1.isNone)) = false := by rfl) :
    L2N.PMk X (.Call (.Name x p) [] [⟨some "value", e, kp⟩] pos) (tMkX C t) := by
  have F := sinit_ok (w := X.w) (B := X.base) (CX := CX0) S st
  obtain ⟨nm, q, N, bs, bm, sn, sub, ab, col, dd, k0, k1, k2, k3, k5, hC, hbm⟩ := T.o.cls
  intro pins s σ H Q I h
  apply wpAny_Call_Name_kw
  apply ld_glob I hg hm _ hdb
  refine PySem.W.callWith_KW0 (h₀ := X.base) I.ok.mod.kin T.o.kC hall (thn (ha.run pos pins s σ H _ I h) fun us s1 ⟨vs, H1, I1, r1, v, ev, q1⟩ => ⟨I1.kIn, ?_⟩) hpl
  subst ev
  obtain ⟨u, rfl, ru⟩ : ∃ u, us = [u] ∧ RelV v u := by
    cases r1 with
    | cons ra rr => cases rr; exact ⟨_, rfl, ra⟩
  rw [hks]
  show wpAny _ _ (call (.ref C) [] [("value", u)]) _ _ _
  obtain ⟨hp, g, dr, tk, os⟩ := s1
  have hz : hp.objs.size ≤ hp.objs.size + 1 := Nat.le_succ _
  have hn : H1 (hp.objs.size + 1) = none := I1.hok.fresh hz
  have up : ∀ b o, hp.get? b = some o → ((hp.push (PySem.W.kdv_tup [])).push (PySem.HandSPX.excO C hp.objs.size)).get? b = some o := fun b o y => Heap.get?_push_of_some _ (Heap.get?_push_of_some _ y)
  have at_ : ((hp.push (PySem.W.kdv_tup [])).push (PySem.HandSPX.excO C hp.objs.size)).get? (hp.objs.size + 1) = some (PySem.HandSPX.excO C hp.objs.size) := by heap_get
  have J := I1.laid (t' := tk) (o := exo (hp.objs.size + 1) C none) up hz (exo_ok at_)
  apply wpAny_call
  refine PySem.XKw.kw_call hbm (I1.kIn _ _ hC) (PySem.W.looks_findIn I1.kIn iC) (fun self => PySem.W.bind_fn I1.kIn self tI) (codeAny_mono (F.run _ X.stack _ _ _ [.ref (hp.objs.size + 1), u] [.ref (hp.objs.size + 1), v] _ (fun _ _ _ => False) (hr.r.make C [] [("value", u)]) (J.env0.make C [] [("value", u)]) (B.b2 _ _ _) (.cons rfl (.cons ru .nil)) (spSI_run T hn q1)) fun r s' hq => ?_)
  cases r with
  | error er => exact hq.elim
  | ok fl =>
    cases fl with
    | ret y =>
      obtain ⟨z, H2, os2, ag2, un2, hok2, rz, ez, d, fs, ea, ed, hd1, q2⟩ := hq
      subst ez
      obtain ⟨h2, g2, d2, t2, os'⟩ := s'
      exact ⟨rz, mkN_end (raises_own T.o.exC T.o.tyC) I1 hz up un2 hok2 os2 ag2 ea ed hd1 q2⟩
    | next => exact hq.elim
    | brk => exact hq.elim
    | cont => exact hq.elim
end
end VM

/-! VMX3: shallow terms for exceptions as values, and their rules. -/
namespace VM
open PySem PySem.Spec PyProof.Rows L2
/-- is an instance of x one of y -/
def isX (x y : Str) : Bool := decide (x = y) || decide (y = "ReadError")
/-- what is known of the error classes: es their names, f the one __init__, D the class that has it -/
structure XErr (K : PySem.W.Frag) (P : Program) (mg : Str → Option Value) (base : Heap) (es : List Str) (f D : Addr) : Prop where
  st : StO base
  ex : ∃ fd qual params body scope, SInit K P mg f fd D qual params body scope ∧ SBind fd
  fn : PySem.W.typeIn K (.ref f) = some (.type "function")
  at_ : ∀ x ∈ es, ∃ C, mg x = some (.ref C) ∧ SCls K C D ∧ XIs K C ∧ PySem.W.findIn K (.ref C) "__init__" = some (some (.ref f)) ∧ ∀ y ∈ es, ∀ C', mg y = some (.ref C') → PySem.W.kitOne K (.ref C) (.ref C') = some (isX x y) ∧ PySem.W.exmOne K (.ref C) (.ref C') = some (isX x y)
def mExc (cn : Str) (a : ME) : ME := fun xc s eh q => a xc s eh fun x eh1 => q (.exc cn x) eh1
def mXv (es : List Str) (a : ME) : ME := fun xc s eh q => a xc s eh fun x eh1 => ∃ C y, x = .exc C y ∧ C ∈ es ∧ q y eh1
def bIsE (es : List Str) : EOL := fun xs eh q => ∃ C y, C ∈ es ∧ ((∃ D, xs = [.exc C y, .glo D] ∧ D ∈ es ∧ q (.bl (isX C D)) eh) ∨ (xs = [.exc C y, .ty "ValueError"] ∧ q (.bl true) eh))
theorem relV_ref {v : V} {a : Addr} (r : RelV v (.ref a)) : v = .ref a := by
  cases v with
  | ref b => cases r; rfl
  | _ => first | (cases r; done) | (obtain ⟨_, e⟩ := r; cases e)
section
variable {X : Cx} {E : XK} {e : Expr} {ma : ME} {p pos kp : Pos} {es : List Str} {f D : Addr} {cn : Str}
/-- what is left when the value stands -/
theorem exc_got {C : Addr} {Hd : Addr → Prop} {eh : Eh} {H : Hp} {x : EV} {v : V} (hC : X.mg cn = some (.ref C)) (R : Rh X.K X.mg Hd eh H) (r : Rp X.K X.mg Hd eh H x v) {dx a : Addr} (h1 : H dx = none) (h2 : upd H dx (.xd [("value", v)]) a = none) :
    Step eh H eh (upd (upd H dx (.xd [("value", v)])) a (exh a (.ref C) (some dx))) ∧ Rh X.K X.mg Hd eh (upd (upd H dx (.xd [("value", v)])) a (exh a (.ref C) (some dx))) ∧
      Rp X.K X.mg Hd eh (upd (upd H dx (.xd [("value", v)])) a (exh a (.ref C) (some dx))) (.exc cn x) (.ref a) := by
  have s1 : Step eh H eh (upd H dx (.xd [("value", v)])) := .newF h1
  have R1 := R.newF (o := .xd [("value", v)]) h1
  have s2 : Step eh (upd H dx (.xd [("value", v)])) eh (upd (upd H dx (.xd [("value", v)])) a (exh a (.ref C) (some dx))) := .newF h2
  have R2 := R1.newF (o := exh a (.ref C) (some dx)) h2
  have ne : dx ≠ a := fun z => by rw [← z, upd_same] at h2; cases h2
  exact ⟨s1.trans s2, R2, a, C, dx, v, rfl, hC, upd_same, by rw [upd_ne ne, upd_same], ⟨R1.fresh h2, R1.notHid h2⟩, ⟨R.fresh h1, R.notHid h1⟩, r.step (s1.trans s2)⟩
theorem re_exc (W : XErr X.K X.prog X.mg X.base es f D) (hx : cn ∈ es) (hr : RoomG 2 X.A) (hg : Gl X cn) (ha : PE X e (U X.K X.mg E ma)) (hdb : (cn == ("__debug__" : Str)) = false := by decide) (he : starEach [e] X.env = (false, eval e X.env) :: starEach [] X.env := by rfl) :
    PE X (.Call (.Name cn p) [e] [] pos) (U X.K X.mg E (mExc cn ma)) := by
  obtain ⟨fd, qual, params, body, scope, S, B⟩ := W.ex
  obtain ⟨C, hm, T, _, iC, _⟩ := W.at_ cn hx
  refine PE.imp (pe_held (pmk_x S W.st B T iC W.fn hr hg hm (pa_cons ha pa_nil he) hdb he)) fun σ H Q ⟨Hd, es, eh, xc, q, R, xo, m, k⟩ => ?_
  refine ⟨Hd, es, eh, xc, _, R, xo, m, fun eh1 H1 x v s1 R1 r1 m1 => ⟨v, rfl, fun dx h1 a h2 => ?_⟩⟩
  obtain ⟨s2, R2, r2⟩ := exc_got (cn := cn) hm R1 r1 h1 h2
  exact k eh1 _ (.exc cn x) (.ref a) (s1.trans s2) R2 r2 m1
theorem re_exck (W : XErr X.K X.prog X.mg X.base es f D) (hx : cn ∈ es) (hr : RoomG 2 X.A) (hg : Gl X cn) (ha : PE X e (U X.K X.mg E ma)) (hdb : (cn == ("__debug__" : Str)) = false := by decide) (hall : (backToKw pos (keywordEach [⟨some "value", e, kp⟩] X.env)).all (·.1.isSome) = true := by rfl)
    (hks : (backToKw pos (keywordEach [⟨some "value", e, kp⟩] X.env)).filterMap (·.1) = [("value" : Str)] := by rfl) (hpl : ((backTo pos (starEach [] X.env)).any (·.1) || (backToKw pos (keywordEach [⟨some "value", e, kp⟩] X.env)).any (·.1.isNone)) = false := by rfl) :
    PE X (.Call (.Name cn p) [] [⟨some "value", e, kp⟩] pos) (U X.K X.mg E (mExc cn ma)) := by
  obtain ⟨fd, qual, params, body, scope, S, B⟩ := W.ex
  obtain ⟨C, hm, T, _, iC, _⟩ := W.at_ cn hx
  refine PE.imp (pe_held (pmk_xk S W.st B T iC W.fn hr hg hm (rk_cons ha rk_nil) hdb hall hks hpl)) fun σ H Q ⟨Hd, es, eh, xc, q, R, xo, m, k⟩ => ?_
  refine ⟨Hd, es, eh, xc, (fun xs eh1 => ∃ x, xs = [x] ∧ q (.exc cn x) eh1), R, xo, ?_, fun eh1 H1 xs vs s1 R1 r1 ⟨x, e1, m1⟩ => ?_⟩
  · unfold aCons aNil
    exact cast (by unfold mExc; simp) m
  · subst e1
    obtain ⟨v, _, rfl, r1, e⟩ := r1
    cases e
    refine ⟨v, rfl, fun dx h1 a h2 => ?_⟩
    obtain ⟨s2, R2, r2⟩ := exc_got (cn := cn) hm R1 r1 h1 h2
    exact k eh1 _ (.exc cn x) (.ref a) (s1.trans s2) R2 r2 m1
/-- an exception that is held stands in the heap -/
theorem exc_at {pins : List (Addr × Obj)} {σ : L2.St} {H : Hp} {s : Shared} {a d C : Addr} (I : Inv X pins σ H s) (ha : H a = some (exh a (.ref C) (some d))) {fs : List (Str × V)} (hd : H d = some (.xd fs)) :
    ∃ oe od, PySem.W.InstAt s.heap a oe C (some od) ∧ s.heap.get? d = some od ∧ ∃ mA, s.heap.Ns1 d mA ∧ ∀ g, RelO (fs.lookup g) (mA g) := by
  have z : ObjOk X.prog X.w H s.heap a (exh a (.ref C) (some d)) := I.hok a _ ha
  obtain ⟨⟨oe, vs, e1, z1, e2⟩, _⟩ := z
  have y : ObjOk X.prog X.w H s.heap d (.xd fs) := I.hok d _ hd
  obtain ⟨mA, hns, hr⟩ := y
  obtain ⟨od, ho, _⟩ := lookIn_ns hns
  exact ⟨oe, od, ⟨e1, z1.1, by unfold PySem.W.notCls; rw [e2] <;> rfl, by rw [z1.2.1]; exact ho⟩, ho, mA, hns, hr⟩
theorem re_xval (W : XErr X.K X.prog X.mg X.base es f D) (ha : PE X e (U X.K X.mg E ma)) (hb : attributeBase e "value" X.env (eval e X.env) = eval e X.env := by rfl) : PE X (.Attribute e "value" pos) (U X.K X.mg E (mXv es ma)) := by
  refine ⟨fun pins s σ H Q I h => ?_⟩
  obtain ⟨Hd, s0, eh, xc, q, R, xo, m, k⟩ := h
  refine attr_of hb (thn (ha.run pins s σ H _ I ⟨Hd, s0, eh, xc, _, R, xo, m, fun eh1 H1 x v s1 R1 r1 m1 => (⟨x, eh1, s1, R1, r1, m1⟩ : ∃ x eh1, Step eh H eh1 H1 ∧ Rh X.K X.mg Hd eh1 H1 ∧ Rp X.K X.mg Hd eh1 H1 x v ∧ ∃ C y, x = .exc C y ∧ C ∈ es ∧ q y eh1)⟩) fun u s1 hh => ?_)
  obtain ⟨w, H1, J, rw', x, eh1, st, R1, r1, Cn, y, rfl, hC, m1⟩ := hh
  obtain ⟨a, C, d, v, rfl, hm, hA, hD, n1, n2, ry⟩ := r1
  obtain rfl : u = Value.ref a := rw'
  obtain ⟨C', hm', T, Z, _⟩ := W.at_ Cn hC
  rw [hm] at hm'; cases hm'
  obtain ⟨oe, od, at_, ho, mA, hns, hr⟩ := exc_at J hA hD
  obtain ⟨od', ho', hl⟩ := lookIn_ns hns
  rw [ho] at ho'; cases ho'
  have rv := hr "value"
  have e1 : List.lookup ("value" : Str) [(("value" : Str), v)] = some v := by simp [List.lookup]
  obtain ⟨u, hu, ru⟩ := RelO.some_of (v := v) (o := mA "value") (by rw [← e1]; exact rv)
  exact PySem.HandSPX.exc_get J.kIn at_ Z.ga Z.gg Z.be (PySem.W.findObj_own Z.hd Z.no rfl (by rw [hl, hu])) (handed_of ru) ⟨v, H1, J.tok _, ru, k eh1 H1 y v st R1 ry m1⟩
theorem cb_isE (W : XErr X.K X.prog X.mg X.base es f D) : CallR X (.builtin "isinstance") (UL X.K X.mg (bIsE es)) := by
  intro pins s σ H xs us Q I r h
  obtain ⟨Hd, eh, ys, q, R, ry, ⟨Cn, y, hC, m⟩, k⟩ := h
  have main : ∀ (cv : Value) (b : Bool) (zs : List V) (a C d : Addr) (v : V), us = [.ref a, cv] → X.mg Cn = some (.ref C) → H a = some (exh a (.ref C) (some d)) → H d = some (.xd [("value", v)]) → PySem.W.kitOne X.K (.ref C) cv = some b → q (.bl b) eh →
      wpAny (model X.prog X.w) X.A (call (.builtin "isinstance") us) (EP X pins σ Q) X.xe s := fun cv b zs a C d v hu hm hA hD hk hq => by
    subst hu
    obtain ⟨C', hm', T, Z, _⟩ := W.at_ Cn hC
    rw [hm] at hm'; cases hm'
    obtain ⟨oe, od, at_, _⟩ := exc_at I hA hD
    have hc : (PySem.W.clsIn X.K C).isSome = true := by obtain ⟨cd, hc, _⟩ := PySem.W.any_some Z.hd; rw [hc]; rfl
    exact PySem.W.kia_one (PySem.W.kitx_exc hc Z.ga Z.gg Z.be Z.cl Z.gs Z.tk Z.ob) I.kIn at_ hk (fun z => nomatch z) fun tk => ⟨.bl b, H, I.kept (t' := tk) fun _ _ z => z, rfl, k eh H (.bl b) (.bl b) .refl R rfl hq⟩
  rcases m with ⟨Dn, rfl, hDn, hq⟩ | ⟨rfl, hq⟩
  · obtain ⟨v1, _, rfl, ⟨a, C, d, v, rfl, hm, hA, hD, n1, n2, ry⟩, v2, _, rfl, ⟨u, hu, r2⟩, e⟩ := ry
    cases e
    obtain ⟨C2, hm2, _⟩ := W.at_ Dn hDn
    rw [hm2] at hu; cases hu
    obtain rfl := relV_ref r2
    obtain ⟨C3, hm3, _, _, _, hk⟩ := W.at_ Cn hC
    rw [hm] at hm3; cases hm3
    refine main (.ref C2) _ [] a C d v ?_ hm hA hD (hk Dn hDn C2 hm2).1 hq
    cases r with
    | cons ra rr => cases rr with
      | cons rb rr => cases rr; cases ra; cases rb; rfl
  · obtain ⟨v1, _, rfl, ⟨a, C, d, v, rfl, hm, hA, hD, n1, n2, ry⟩, v2, _, rfl, r2, e⟩ := ry
    cases e
    obtain ⟨C3, hm3, _, Z, _⟩ := W.at_ Cn hC
    rw [hm] at hm3; cases hm3
    refine main (.type "ValueError") true [] a C d v ?_ hm hA hD Z.ve hq
    cases r2
    cases r with
    | cons ra rr => cases rr with
      | cons rb rr => cases rr; cases ra; cases rb; rfl
/-- a built-in type's name -/
theorem re_bltn {x : Str} {y : EV} {v : V} {u : Value} (hg : Gl X x) (hm : X.mg x = none) (hv : bootBuiltins x = some u) (r : RelV v u) (r' : ∀ Hd eh H, Rp X.K X.mg Hd eh H y v) (hn : x ≠ "__name__" := by decide) (hd : (x == ("__debug__" : Str)) = false := by decide) : PE X (.Name x pos) (U X.K X.mg E (mC y)) :=
  PE.imp (pe_bltn hg hm hv r hn hd) fun σ H Q ⟨Hd, es, eh, xc, q, R, xo, m, k⟩ => k eh H y v .refl R.obj (r' _ _ _) m
/-- d[k] += e of ints -/
def sDAugE (md mk mv : ME) : MS := fun xc d s eh => md xc s eh fun x eh1 => mk xc s eh1 fun y eh2 => ∃ p kvs key i, x = .ref p ∧ eh2 p = some (.dct kvs) ∧ keyE y = some key ∧ getK kvs key = some (.int i) ∧
  mv xc s eh2 fun z eh3 => ∃ j kvs', z = .int j ∧ eh3 p = some (.dct kvs') ∧ kvs'.length < sizeLine ∧ d.nx s (eupd eh3 p (some (.dct (putKE kvs' key (.int (i + j))))))
theorem rs_daug {k : Nat} {o c : Expr} {pos' : Pos} {mb mv : ME} (hr : RoomG k X.A) (ho : PE X o (U X.K X.mg E ma)) (hi : PE X c (U X.K X.mg E mb)) (hv : PE X e (U X.K X.mg E mv))
    (hs : ∀ ov iv new, augStore c ov iv new = (do holding [new, ov, iv] (setItem ov iv new); release [new, ov, iv] []; pure .next) := by exact fun _ _ _ => rfl) :
    PS X (.AugAssign (.Subscript o c pos') .Add e pos) (US X.K X.mg E (sDAugE ma mb mv)) :=
  PS.imp (ps_daug (by have := hr.units; omega) ho hi hv in_add hs) fun D σ H ⟨Hd, es, eh, xc, d, R, xo, m, k1, k2, k3, k4⟩ => ⟨Hd, es, eh, xc, _, R, xo, m, fun eh1 H1 x x1 s1 R1 r1 m1 => ⟨Hd, es, eh1, xc, _, R.step s1 R1, xo.step s1, m1, fun eh2 H2 y y2 s2 R2 r2 ⟨p, kvs, key, i, e1, e2, e3, e4, m2⟩ => by
    subst e1
    cases r1
    obtain ⟨us, h, t⟩ := R2.ob p _ e2
    obtain ⟨v2, hv2, pz⟩ := (lookup_valV t).1 _ e4
    cases pz
    refine ⟨p, .int i, rfl, by rw [keyE_of r2 e3, ← hv2]; exact .k h, Hd, es, eh2, xc, _, (R.step s1 R1).step s2 R2, (xo.step s1).step s2, m2, fun eh3 H3 z z3 s3 R3 r3 ⟨j, kvs', e5, e6, hl, m3⟩ => ?_⟩
    subst e5
    cases r3
    obtain ⟨us', h', t'⟩ := R3.ob p _ e6
    have st : Step eh3 H3 (eupd eh3 p (some (.dct (putKE kvs' key (.int (i + j)))))) (upd H3 p (.dK (putK us' key (.int (i + j))))) := .write R3 e6
    refine ⟨i, j, rfl, rfl, _, .inl ⟨us', key, h', keyE_of r2 e3, by rw [← t'.length]; exact hl, rfl⟩, k1 _ _ _ _ (s1.trans (s2.trans (s3.trans st))) ((R.step (s1.trans (s2.trans s3)) R3).step st (.write R3 e6 ⟨_, upd_same, RpK.put (x := EV.int (i + j)) (v := V.int (i + j)) rfl (t'.step st)⟩)) m3⟩⟩⟩
end
/-- repr(x), x perhaps no tuple or list -/
def bReprX : EOL := fun xs eh q => bRepr xs eh q ∨ (xs = [.non] ∧ q (.str "None") eh) ∨ (∃ i, xs = [.int i] ∧ i.natAbs.log2 < 1920 ∧ q (.str (toString i)) eh) ∨ ∃ x, xs = [.str x] ∧ (reprText x).length ≤ sizeLine ∧ q (.str (reprText x)) eh
theorem cb_reprX {X : Cx} {k : Nat} (hr : RoomG k X.A) : CallR X (.builtin "repr") (UL X.K X.mg bReprX) := by
  intro pins s σ H xs us Q I r h
  obtain ⟨Hd, eh, ys, q, R, ry, m, k⟩ := h
  rcases m with m | ⟨rfl, m⟩ | ⟨i, rfl, hi, m⟩ | ⟨x, rfl, hx, m⟩
  · exact cb_repr hr pins s σ H xs us Q I r ⟨Hd, eh, ys, q, R, ry, m, k⟩
  · obtain ⟨v, r', rfl, rx, e⟩ := ry
    cases e
    cases rx
    obtain ⟨u, rfl, ru⟩ := vals1 r
    cases ru
    exact PySem.P.repr_of_none ⟨.str "None", H, I.tok _, ⟨_, rfl⟩, k eh H (.str "None") _ .refl R rfl m⟩
  · obtain ⟨v, r', rfl, rx, e⟩ := ry
    cases e
    cases rx
    obtain ⟨u, rfl, t, rfl⟩ := vals1 r
    exact PySem.P.repr_of_int hi ⟨.str (toString i), H, I.tok _, ⟨_, rfl⟩, k eh H (.str (toString i)) _ .refl R rfl m⟩
  · obtain ⟨v, r', rfl, rx, e⟩ := ry
    cases e
    cases rx
    obtain ⟨u, rfl, t, rfl⟩ := vals1 r
    exact PySem.P.repr_of_str ⟨.str (reprText x), H, I.tok _, ⟨_, rfl⟩, k eh H (.str (reprText x)) _ .refl R rfl m⟩ hx
end VM

/-! VMX4: raise, calls that may raise, try .. except X as n whose exception is held. -/
namespace VM
open PySem PySem.Spec PyProof.Rows L2
/-! ### the hand layer: an except suite whose exception is tracked -/
section
variable {X : Cx} {pins : List (Addr × Obj)} {σ : L2.St} {H : Hp} {sI s s' : Shared} {B : Heap} {a : Addr} {oe : Obj} {vs : Array Value} {cls : Value} {d : Option Addr}
/-- back on the ground, and the exception is tracked -/
theorem Inv.landedK (I : Inv X pins σ H sI) (nb : ∀ b o, sI.heap.get? b = some o → b ∉ frs X.stack → B.get? b = some o) (st : B.StaysIn s'.heap) (up : sI.heap.UpToSlots s'.heap) (os : s'.os = sI.os) (ag : AllBare s'.gens)
    (ba : B.get? a = none) (nf : a ∉ frs X.stack) (na : H a = none) (he : s'.heap.get? a = some oe) (hz : L2N.Zn cls d oe) (hd : oe.data = .fields vs) : Inv X pins σ (upd H a (exh a cls d)) s' := by
  have fr : ∀ b ∈ frs X.stack, ∀ o, sI.heap.get? b = some o → ∃ sl, s'.heap.get? b = some { o with slots := sl } := fun b hb o q => by
    obtain ⟨_, o', e', z⟩ := I.stack.mem hb
    rw [q] at e'
    cases e'
    exact up b o q z
  have ne : ∀ {b : Addr} {o : Obj}, sI.heap.get? b = some o → b ≠ a := fun {b o} q z => by
    rw [z] at q
    have := nb a o q nf
    rw [ba] at this; cases this
  have U : Un (frs X.stack) [] H (upd H a (exh a cls d)) sI.heap s'.heap := by
    constructor
    · exact fun b o q _ hb _ => st b o (nb b o q hb)
    · exact fun b o q _ hb _ => fr b hb o q
    · exact fun b o q n _ => by rw [upd_ne (ne q)]; exact n
    · intro b o q _
      rcases Decidable.em (b ∈ frs X.stack) with hb | hb
      · obtain ⟨sl, z⟩ := fr b hb o q; exact ⟨_, z⟩
      · exact ⟨o, st b o (nb b o q hb)⟩
    · exact fun b xs q => by rw [upd_ne (ne_of_none q na)]; exact q
    · exact fun b o z q => by rw [upd_ne (ne_of_none q na)]; exact q
    · exact fun b ps q => ⟨#[], by rw [upd_ne (ne_of_none q na), q]; simp⟩
  refine I.call' (ch := []) os U (fun b o q => ?_) ag (fun b z => absurd z (by simp))
  rcases Decidable.em (b = a) with z | z
  · subst z
    rw [upd_same] at q; cases q
    exact exh_ok he hz hd
  · rw [upd_ne z] at q
    have y : ObjOk X.prog X.w H s'.heap b o := (I.inGround nb).kept st b o q
    refine y.stay (fun _ _ _ h => h) (fun c hc => ?_) (fun c xs hc => ?_)
    · rw [upd_ne (ne_of_none hc na)]; exact hc
    · rw [upd_ne (ne_of_none hc na)]; exact hc
theorem Inv.suiteK (I : Inv X pins σ H s) : Inv (X.suite a (X.pn ++ pins)) [] σ H s :=
  ⟨I.ok.suite _ _, I.os, I.bare, I.base, I.loc, I.cell, I.free, I.freeC, fun p hp => I.pin p (by rw [List.append_nil] at hp; exact hp), I.hok, I.len⟩
theorem Inv.unsuiteK {pn' : List (Addr × Obj)} (I : Inv (X.suite a (X.pn ++ pins)) pn' σ H s) (ok : X.Ok) : Inv X pins σ H s :=
  ⟨ok, I.os, I.bare, I.base, I.loc, I.cell, I.free, I.freeC, fun p hp => I.pin p (List.mem_append_left _ hp), I.hok, I.len⟩
end
/-- what 'except x as n' wishes of the body's exceptions, all of which it catches: slot i is n's -/
def wK (K : PySem.W.Frag) (c : Value) (i : Nat) (ts : Addr → TS) (D : Ends) : WX := fun cls d σ H =>
  PySem.W.exmOne K cls c = some true ∧ ∀ a, H a = none → ts a { nx := fun σ' H' => D.nx (σ'.set i none) H', rt := D.rt, bk := fun σ' H' => D.bk (σ'.set i none) H', ct := fun σ' H' => D.ct (σ'.set i none) H' } (σ.set i (some (.ref a))) (upd H a (exh a cls d))
section
variable {X : Cx} {x n : Str} {c : Value} {i : Nat} {body suite : List Stmt} {b₀ : Stmt} {np pos pos' : Pos} {tb : WX → TS} {ts : Addr → TS}
theorem ps_tryK (hs : X.stack = X.env :: X.outer) (hf : X.env.frame = some X.env.locals) (hN : X.N.Nodup) (hi : X.N[i]? = some n) (hln : X.env.kindOf n = some .local) (hc : Names X x c)
    (hb : ∀ (W : WX) (pn : List (Addr × Obj)) (xe : Value → Shared → Prop), L2N.Takes (X.tr pn xe) W → PassesOwn (model X.prog X.w) X.A X.env xe → PSs (X.tr pn xe) body (tb W))
    (hsu : ∀ (a : Addr) (pn : List (Addr × Obj)), PSs (X.suite a pn) (b₀ :: suite) (ts a)) :
    PS X (.Try body [.ExceptHandler (some (.Name x np)) (some n) (b₀ :: suite) pos'] [] [] pos) (fun D σ H => tb (wK X.K c i ts D) D σ H) := by
  constructor
  intro pins s σ H D I h
  have ok := I.ok
  have hfr : X.A.frames = some (X.env :: X.outer) := by rw [ok.frames, hs]
  apply wpAny_Try_except
  have catch_ : ∀ (u : Value) (s1 : Shared), L2N.XE (X.tr (X.pn ++ pins) fun e s₁ => wpAny (model X.prog X.w) X.A (noteFrame e X.env) (fun _ s₂ => wpAny (model X.prog X.w) X.A (setFlight e none) (fun _ s₃ =>
      wpAny (model X.prog X.w) X.A (handleBy e X.env [.ExceptHandler (some (.Name x np)) (some n) (b₀ :: suite) pos']) (SP X pins D) X.xe s₃) X.xe s₂) X.xe s₁) (wK X.K c i ts D) u s1 →
      wpAny (model X.prog X.w) X.A (noteFrame u X.env) (fun _ s₂ => wpAny (model X.prog X.w) X.A (setFlight u none) (fun _ s₃ =>
        wpAny (model X.prog X.w) X.A (handleBy u X.env [.ExceptHandler (some (.Name x np)) (some n) (b₀ :: suite) pos']) (SP X pins D) X.xe s₃) X.xe s₂) X.xe s1 := by
    intro u s1 xx
    obtain ⟨a, B, sI, pins', τ, G, cls, d, rfl, J', nb, up, sky, na, os, ag, hex, wish⟩ := xx
    have J : Inv X pins τ G sI := J'.ofTry ok
    have sky' : Sky B (X.env :: X.outer) a (L2N.Zn cls d) X.env.locals s1.heap := by rw [← hs]; exact sky
    refine L2N.Sky.land L2N.Zn.steady hfr hf sky' fun h3 fl3 up3 => ?_
    have ba : B.get? a = none := fl3.2.1
    have off : ∀ {h : Heap} {o : Obj} {us : Array Value}, h.FunFrames B (X.env :: X.outer) → h.get? a = some o → o.data = .fields us → a ∉ frs X.stack := fun {h o us} ff e dd hm => by
      rw [hs] at hm
      obtain ⟨_, o', e', hnf⟩ := ff.mem hm
      rw [e] at e'; cases e'
      exact hnf _ dd
    obtain ⟨oe3, vs3, he3, hz3, hd3⟩ := fl3.there
    have nf := off fl3.2.2.1 he3 hd3
    have J3 : Inv X pins τ G { s1 with heap := h3 } := J.landed nb fl3.1 (up.trans up3) os ag
    refine wpAny_handleBy_cons (codeAny_handlers_test ?_) (by intro q; cases q)
    have ty : PySem.W.Looks (model X.prog X.w) h3 (typeOf (.ref a)) cls := fun A Q E t k q => wpAny_typeOf_ref (k _ _ he3) (by rw [hz3.1]; exact q)
    have mt := PySem.W.exm_one (M := model X.prog X.w) J3.kIn ty hex
    have test : ∀ {Q : Value → Shared → Prop} {E : Value → Shared → Prop}, Q c { s1 with heap := h3 } → wpAny (model X.prog X.w) (X.A.mark (some (.ref a))) (eval (.Name x np) X.env) Q E { s1 with heap := h3 } := fun {Q E} q => by
      have S3 := Inv.suiteK (a := a) J3
      obtain ⟨hg, hdb, hm | ⟨hm, hv, hnn⟩⟩ := hc
      · exact ld_glob (X := X.suite a (X.pn ++ pins)) S3 hg hm q hdb
      · exact ld_blt (X := X.suite a (X.pn ++ pins)) S3 hg hm hv q hnn hdb
    apply test
    apply mt.here
    apply codeAny_handlers_suite_as
    refine HandSPX.lands_againZ fl3 fun h4 fl4 up4 => ?_
    obtain ⟨oe4, vs4, he4, hz4, hd4⟩ := fl4.there
    have J4 : Inv X pins τ (upd G a (exh a cls d)) { s1 with heap := h4 } := Inv.landedK J nb fl4.1 ((up.trans up3).trans up4) os ag ba nf na he4 hz4 hd4
    refine store_ok (X := X.suite a (X.pn ++ pins)) (v := .ref a) (Inv.suiteK J4) hN hi (.inl hln) rfl (fun s5 S5 => ?_) (.inr hln)
    refine wpAny_mono ((hsu a (X.pn ++ pins)).run [] s5 _ _ _ S5 (wish a na)) (fun f s6 hsp => ?_) (fun _ _ z => False.elim z)
    have fin : ∀ {σ6 : L2.St} {H6 : Hp} {Q : Shared → Prop}, Inv (X.suite a (X.pn ++ pins)) [] σ6 H6 s6 → (∀ s7, Inv X pins (σ6.set i none) H6 s7 → Q s7) →
        wpAny (model X.prog X.w) X.A (do bindName X.env n .none; unbindBehindTheSuite X.env n pos') (fun _ s7 => Q s7) X.xe s6 := fun {σ6 H6 Q} S6 hq => gone_ok (Inv.unsuiteK S6 ok) hN hi hln hq
    rcases f with _ | _ | _ | u
    · obtain ⟨σ6, H6, S6, q6⟩ := hsp; exact fin S6 fun s7 J7 => ⟨_, _, J7, q6⟩
    · obtain ⟨σ6, H6, S6, q6⟩ := hsp; exact fin S6 fun s7 J7 => ⟨_, _, J7, q6⟩
    · obtain ⟨σ6, H6, S6, q6⟩ := hsp; exact fin S6 fun s7 J7 => ⟨_, _, J7, q6⟩
    · obtain ⟨v6, σ6, H6, S6, r6, q6⟩ := hsp; exact fin S6 fun s7 J7 => ⟨_, _, _, J7, r6, q6⟩
  refine wpAny_mono ((hb (wK X.K c i ts D) (X.pn ++ pins) _ catch_ PassesOwn.looking).run [] s σ H D (I.toTry _) h) (fun f s1 hsp => ?_) (fun e s1 he => he)
  rcases f with _ | _ | _ | u
  · obtain ⟨τ, G, J, q⟩ := hsp; exact wpAny_execs_nil ⟨τ, G, J.ofTry ok, q⟩
  · obtain ⟨τ, G, J, q⟩ := hsp; exact ⟨τ, G, J.ofTry ok, q⟩
  · obtain ⟨τ, G, J, q⟩ := hsp; exact ⟨τ, G, J.ofTry ok, q⟩
  · obtain ⟨v, τ, G, J, r, q⟩ := hsp; exact ⟨v, τ, G, J.ofTry ok, r, q⟩
end
/-! ### raise -/
def sRaise (cn : Str) (a : ME) : MS := fun xc _ s eh => a xc s eh fun x eh1 => xc cn x eh1
section
variable {X : Cx} {E : XK} {e : Expr} {ma : ME} {p pos pos' : Pos} {es : List Str} {f D : Addr} {cn : Str}
theorem rs_raise (W : XErr X.K X.prog X.mg X.base es f D) (hx : cn ∈ es) (tk : L2N.Takes X (fun c d _ H => E c d H)) (hr : RoomG 2 X.A) (hg : Gl X cn) (ha : PE X e (U X.K X.mg E ma)) (hc : X.calm = true := by rfl) (hdb : (cn == ("__debug__" : Str)) = false := by decide) (he : starEach [e] X.env = (false, eval e X.env) :: starEach [] X.env := by rfl) :
    PS X (.Raise (some (.Call (.Name cn p) [e] [] pos)) none pos') (US X.K X.mg E (sRaise cn ma)) := by
  obtain ⟨fd, qual, params, body, scope, S, B⟩ := W.ex
  obtain ⟨C, hm, T, _, iC, _⟩ := W.at_ cn hx
  refine PS.imp (L2N.ps_raise hc tk (pmk_x S W.st B T iC W.fn hr hg hm (pa_cons ha pa_nil he) hdb he)) fun D' σ H ⟨Hd, es, eh, xc, d, R, xo, m, k1, k2, k3, k4⟩ => ?_
  refine ⟨Hd, es, eh, xc, _, R, xo, m, fun eh1 H1 x v s1 R1 r1 m1 => ⟨v, rfl, fun dx h1 => ?_⟩⟩
  have s2 : Step eh1 H1 eh1 (upd H1 dx (.xd [("value", v)])) := .newF h1
  exact xo eh1 _ cn C dx x v (s1.trans s2) (R1.newF h1) hm upd_same (r1.step s2) m1
end
/-! ### calls that may raise, at the slots as they stand -/
theorem XOk.tr {K mg Hd eh H xc} : XOk K mg (fun _ _ _ => True) Hd eh H xc := fun _ _ _ _ _ _ _ _ _ _ _ _ _ => trivial
section
variable {X : Cx} {W : WX} {k np : Nat} {f : Addr} {fd : FuncData} {ps : List Str} {F : FN} {dvs : List V} {ds : List Value} {dx : List EV} {x : Str} {p pos : Pos} {e : Expr} {es : List Expr} {t : MA} {m : ME}
theorem re_callW (G : FnG X.prog X.w X.K X.mg X.base (L2N.CX X.prog X.w) k f fd ps (spOf X.K X.mg np F)) (tk : L2N.Takes X W) (hr : RoomG k X.A) (hg : Gl X x) (hm : X.mg x = some (.ref f)) (hk : PySem.W.keepIn X.K (.ref f) = true) (hb : Binds X.K fd ps ds) (hd : Vals dvs ds) (hdx : ∀ Hd eh H, RpL X.K X.mg Hd eh H dx dvs)
    (ha : PA X (e :: es) (UA X.K X.mg (fun _ _ _ => True) t)) (hdb : (x == ("__debug__" : Str)) = false := by decide) (he : starEach (e :: es) X.env = (false, eval e X.env) :: starEach es X.env := by rfl) (hpl : (backTo pos (starEach es X.env)).any (·.1) = false := by rfl) :
    PE X (.Call (.Name x p) (e :: es) [] pos) (fun σ H Q => U X.K X.mg (WE W σ) (mCall F np dx t) σ H Q) :=
  PE.imp (G.call_ hr hg hm hk hb hd (fun σ => L2N.passAt tk σ) ha hdb he hpl) fun σ H Q ⟨Hd, es, eh, xc, q, R, xo, m, kk⟩ =>
    ⟨Hd, es, eh, xc, _, R, .tr, m, fun eh1 H1 xs vs s1 R1 r1 ⟨hl, m1⟩ => ⟨Hd, eh1, xs ++ dx, xc, q, by rw [← hl]; exact (r1.append (hdx Hd eh1 H1)).length.symm, R1, r1.append (hdx _ _ _), xo.step s1, m1, fun eh2 H2 x v s2 => kk eh2 H2 x v (s1.trans s2)⟩⟩
theorem rss_exprW (he : PE X e (fun σ H Q => U X.K X.mg (WE W σ) m σ H Q)) (hs : swapsWith e none pos.line X.env = pure false := by rfl) : PSs X [.Expr e pos] (fun D σ H => US X.K X.mg (WE W σ) (sExpr m) D σ H) :=
  PSs.imp (pss_one (ps_expr he hs)) fun D σ H ⟨Hd, es, eh, xc, d, R, xo, m, k1, k2, k3, k4⟩ => ⟨Hd, es, eh, xc, _, R, xo, m, fun eh1 H1 x v s1 R1 r1 m1 => k1 es eh1 σ H1 s1 (R.step s1 R1) m1⟩
theorem rss_retW (he : PE X e (fun σ H Q => U X.K X.mg (WE W σ) m σ H Q)) : PSs X [.Return (some e) pos] (fun D σ H => US X.K X.mg (WE W σ) (sRet m) D σ H) :=
  PSs.imp (pss_one (ps_ret he)) fun D σ H ⟨Hd, es, eh, xc, d, R, xo, m, k1, k2, k3, k4⟩ => ⟨Hd, es, eh, xc, _, R, xo, m, k2⟩
/-- a branch within such a body -/
theorem rss_ifW {c : Expr} {a b : List Stmt} {mt : MT} {ma mb : MS} (hc : PT X c (UT X.K X.mg (fun _ _ _ => True) mt)) (ha : PSs X a (fun D σ H => US X.K X.mg (WE W σ) ma D σ H)) (hb : PSs X b (fun D σ H => US X.K X.mg (WE W σ) mb D σ H)) :
    PSs X [.If c a b pos] (fun D σ H => US X.K X.mg (WE W σ) (sIf mt ma mb) D σ H) :=
  PSs.imp (pss_one (ps_if hc ha hb)) fun D σ H ⟨Hd, es, eh, xc, d, R, xo, m, k1, k2, k3, k4⟩ => ⟨Hd, es, eh, xc, _, R, .tr, m, fun eh1 H1 c s1 R1 m1 => by
    cases c with
    | true => exact iteT ⟨Hd, es, eh1, xc, d, R.step s1 R1, xo.step s1, m1, fun es2 eh2 σ2 H2 s2 => k1 es2 eh2 σ2 H2 (s1.trans s2), fun eh2 H2 x v s2 => k2 eh2 H2 x v (s1.trans s2), fun es2 eh2 σ2 H2 s2 => k3 es2 eh2 σ2 H2 (s1.trans s2), fun es2 eh2 σ2 H2 s2 => k4 es2 eh2 σ2 H2 (s1.trans s2)⟩
    | false => exact iteF ⟨Hd, es, eh1, xc, d, R.step s1 R1, xo.step s1, m1, fun es2 eh2 σ2 H2 s2 => k1 es2 eh2 σ2 H2 (s1.trans s2), fun eh2 H2 x v s2 => k2 eh2 H2 x v (s1.trans s2), fun es2 eh2 σ2 H2 s2 => k3 es2 eh2 σ2 H2 (s1.trans s2), fun es2 eh2 σ2 H2 s2 => k4 es2 eh2 σ2 H2 (s1.trans s2)⟩⟩
end
/-! ### try -/
theorem Rl.unset {K mg Hd} {eh : Eh} {H : Hp} {es : Es} {σ : L2.St} {i : Nat} (R : Rl K mg Hd eh H es σ) : Rl K mg Hd eh H (es.set i none) (σ.set i none) := by
  refine ⟨by simp [R.len], fun j y e => ?_, R.obj⟩
  by_cases h : i = j
  · subst h
    rw [List.getElem?_set] at e
    simp only [ite_true] at e
    split at e <;> cases e
  · rw [List.getElem?_set_ne h] at e
    obtain ⟨w, hw, q⟩ := R.loc j y e
    exact ⟨w, by rw [List.getElem?_set_ne h]; exact hw, q⟩
/-- try: mb / except cn as (slot i): ms -/
def sTry (es : List Str) (cn : Str) (i : Nat) (mb ms : MS) : MS := fun xc d s eh => mb (fun C x eh1 => C ∈ es ∧ isX C cn = true ∧ ms xF { nx := fun s' eh' => d.nx (s'.set i none) eh', rt := d.rt, bk := fun s' eh' => d.bk (s'.set i none) eh', ct := fun s' eh' => d.ct (s'.set i none) eh' } (s.set i (some (.exc C x))) eh1) d s eh
theorem Rh.xdn {K mg Hd} {eh : Eh} {H : Hp} (R : Rh K mg Hd eh H) {d : Addr} {fs : List (Str × V)} (h : H d = some (.xd fs)) : eh d = none ∧ ¬ Hd d := by
  constructor
  · cases e : eh d with
    | none => rfl
    | some o =>
      have z := R.ob d o e
      cases o with
      | lst xs => obtain ⟨_, q, _⟩ := z; rw [h] at q; cases q
      | dct xs => obtain ⟨_, q, _⟩ := z; rw [h] at q; cases q
      | ins C fs => obtain ⟨_, _, _, _, q, _⟩ := z; rw [h] at q; cases q
  · intro z
    obtain ⟨⟨vs, q⟩, _⟩ := R.hd d z
    rw [h] at q; cases q
section
variable {X : Cx} {E : XK} {es : List Str} {f D : Addr} {cn n : Str} {i : Nat} {body suite : List Stmt} {b₀ : Stmt} {np pos pos' : Pos} {mb ms : MS}
theorem rs_try (W : XErr X.K X.prog X.mg X.base es f D) (hx : cn ∈ es) (hN : X.N.Nodup) (hg : Gl X cn)
    (hb : ∀ (W : WX) (pn : List (Addr × Obj)) (xe : Value → Shared → Prop), L2N.Takes (X.tr pn xe) W → PassesOwn (model X.prog X.w) X.A X.env xe → PSs (X.tr pn xe) body (fun D σ H => US X.K X.mg (WE W σ) mb D σ H))
    (hsu : ∀ (a : Addr) (pn : List (Addr × Obj)), PSs (X.suite a pn) (b₀ :: suite) (US X.K X.mg (fun _ _ _ => True) ms))
    (hi : X.N[i]? = some n := by rfl) (hs : X.stack = X.env :: X.outer := by rfl) (hf : X.env.frame = some X.env.locals := by rfl) (hln : X.env.kindOf n = some .local := by rfl) (hdb : (cn == ("__debug__" : Str)) = false := by decide) :
    PS X (.Try body [.ExceptHandler (some (.Name cn np)) (some n) (b₀ :: suite) pos'] [] [] pos) (US X.K X.mg E (sTry es cn i mb ms)) := by
  obtain ⟨c, hm, _⟩ := W.at_ cn hx
  refine PS.imp (ps_tryK (ts := fun _ => US X.K X.mg (fun _ _ _ => True) ms) hs hf hN hi hln ⟨hg, hdb, .inl hm⟩ hb hsu) fun D' σ H ⟨Hd, s, eh, xc, d, R, xo, m, k1, k2, k3, k4⟩ => ?_
  refine ⟨Hd, s, eh, _, d, R, ?_, m, k1, k2, k3, k4⟩
  intro eh1 H1 C cc dd x v s1 R1 hC hd rx ⟨hCes, hX, hm2⟩
  obtain ⟨c2, hm3, _, _, _, ex⟩ := W.at_ C hCes
  rw [hC] at hm3; cases hm3
  refine ⟨by rw [(ex cn hx c hm).2, hX], fun a na => ?_⟩
  have s2 : Step eh1 H1 eh1 (upd H1 a (exh a (.ref cc) (some dd))) := .newF na
  have R2 := R1.newF (o := exh a (.ref cc) (some dd)) na
  have ne : dd ≠ a := fun z => by rw [z, na] at hd; cases hd
  obtain ⟨n1, n2⟩ := Rh.xdn R1 hd
  have rp : Rp X.K X.mg Hd eh1 (upd H1 a (exh a (.ref cc) (some dd))) (.exc C x) (.ref a) := ⟨a, cc, dd, v, rfl, hC, upd_same, by rw [upd_ne ne]; exact hd, ⟨R1.fresh na, R1.notHid na⟩, ⟨n1, n2⟩, rx.step s2⟩
  have st := s1.trans s2
  exact ⟨Hd, s.set i (some (.exc C x)), eh1, xF, _, (R.step st R2).set rp, .tr, hm2,
    fun es' eh' σ' H' s3 R3 m3 => k1 _ eh' _ H' (st.trans s3) R3.unset m3, fun eh' H' x v s3 => k2 eh' H' x v (st.trans s3),
    fun es' eh' σ' H' s3 R3 m3 => k3 _ eh' _ H' (st.trans s3) R3.unset m3, fun es' eh' σ' H' s3 R3 m3 => k4 _ eh' _ H' (st.trans s3) R3.unset m3⟩
end
end VM

/-! VMX5: dict.get, dict.pop with a default, str.split, list.index and list.count of bools, isinstance with a tuple of error classes, repr of dicts. -/
namespace VM
open PySem PySem.Spec PyProof.Rows L2
section
variable {X : Cx} {E : XK} {o e f : Expr} {ma mb mc : ME} {apos cpos : Pos}
/-! ### d.get(k, x), d.pop(k, x) -/
def mDGet2 (md mk mx : ME) : ME := fun xc s eh q => md xc s eh fun x eh1 => (∃ kvs, dctE eh1 x = some kvs) ∧ mk xc s eh1 fun y eh2 => mx xc s eh2 fun z eh3 => ∃ kvs key, dctE eh3 x = some kvs ∧ keyE y = some key ∧ q ((getK kvs key).getD z) eh3
theorem re_dget2 {k : Nat} (hr : RoomG k X.A) (ho : PE X o (U X.K X.mg E ma)) (he : PE X e (U X.K X.mg E mb)) (hf : PE X f (U X.K X.mg E mc)) (m : M2 X o "get" apos e f cpos := by exact ⟨rfl, rfl, rfl, rfl⟩) :
    PE X (.Call (.Attribute o "get" apos) [e, f] [] cpos) (U X.K X.mg E (mDGet2 ma mb mc)) :=
  PE.imp (pe_dget2 (by have := hr.units; omega) ho he hf m) fun σ H Q ⟨Hd, es, eh, xc, q, R, xo, m, k⟩ => ⟨Hd, es, eh, xc, _, R, xo, m, fun eh1 H1 x v s1 R1 r1 ⟨⟨kvs0, h0⟩, m1⟩ => by
    obtain ⟨a, us, rfl, rd, _⟩ := dct_of R1 r1 h0
    refine ⟨a, rfl, .inl ⟨us, rd⟩, Hd, es, eh1, xc, _, R.step s1 R1, xo.step s1, m1, fun eh2 H2 y u s2 R2 r2 m2 => ⟨Hd, es, eh2, xc, _, (R.step s1 R1).step s2 R2, (xo.step s1).step s2, m2, fun eh3 H3 z w s3 R3 r3 ⟨kvs, key, h3, hk, m3⟩ => ?_⟩⟩
    obtain ⟨a', us', e', rd', rk⟩ := dct_of R3 (r1.step (s2.trans s3)) h3
    cases e'
    refine ⟨valV us' key, by rw [keyE_of r2 hk]; exact dget_rd rd', ?_⟩
    have lv := lookup_valV (k := key) rk
    cases hg : getK kvs key with
    | none => rw [hg] at m3; rw [lv.2 hg]; exact k eh3 H3 z w (s1.trans (s2.trans s3)) R3 r3 m3
    | some t => rw [hg] at m3; obtain ⟨tv, h1, h2⟩ := lv.1 t hg; rw [h1]; exact k eh3 H3 t tv (s1.trans (s2.trans s3)) R3 h2 m3⟩
def dropKE (kvs : List (Key × EV)) (k : Key) : List (Key × EV) := kvs.filter fun kv => decide (kv.1 ≠ k)
theorem RpK.drop {K mg Hd} {eh : Eh} {H : Hp} {k : Key} : ∀ {xs : List (Key × EV)} {us : List (Key × V)}, RpK K mg Hd eh H xs us → RpK K mg Hd eh H (dropKE xs k) (dropK us k)
  | [], _, h => by cases h; rfl
  | (k', y) :: xs, _, ⟨w, r, e, h, t⟩ => by
    subst e
    have ih := RpK.drop (k := k) t
    by_cases hk : k' = k
    · have e1 : dropKE ((k', y) :: xs) k = dropKE xs k := by simp [dropKE, hk]
      have e2 : dropK ((k', w) :: r) k = dropK r k := by simp [dropK, hk]
      rw [e1, e2]; exact ih
    · have e1 : dropKE ((k', y) :: xs) k = (k', y) :: dropKE xs k := by simp [dropKE, hk]
      have e2 : dropK ((k', w) :: r) k = (k', w) :: dropK r k := by simp [dropK, hk]
      rw [e1, e2]; exact ⟨w, _, rfl, h, ih⟩
def mDPop2 (md mk mx : ME) : ME := fun xc s eh q => md xc s eh fun x eh1 => ∃ p, x = .ref p ∧ (∃ kvs, eh1 p = some (.dct kvs)) ∧ mk xc s eh1 fun y eh2 => mx xc s eh2 fun z eh3 => ∃ kvs key, eh3 p = some (.dct kvs) ∧ keyE y = some key ∧
  (∀ t, getK kvs key = some t → q t (eupd eh3 p (some (.dct (dropKE kvs key))))) ∧ (getK kvs key = none → q z eh3)
theorem re_dpop2 (ho : PE X o (U X.K X.mg E ma)) (he : PE X e (U X.K X.mg E mb)) (hf : PE X f (U X.K X.mg E mc)) (m : M2 X o "pop" apos e f cpos := by exact ⟨rfl, rfl, rfl, rfl⟩) :
    PE X (.Call (.Attribute o "pop" apos) [e, f] [] cpos) (U X.K X.mg E (mDPop2 ma mb mc)) :=
  PE.imp (pe_dpop2 ho he hf m) fun σ H Q ⟨Hd, es, eh, xc, q, R, xo, m, k⟩ => ⟨Hd, es, eh, xc, _, R, xo, m, fun eh1 H1 x v s1 R1 r1 ⟨p, ex, ⟨kvs0, h0⟩, m1⟩ => by
    subst ex
    cases r1
    obtain ⟨us0, hd0, _⟩ := R1.ob p _ h0
    refine ⟨p, rfl, .inl ⟨us0, .inl hd0⟩, Hd, es, eh1, xc, _, R.step s1 R1, xo.step s1, m1, fun eh2 H2 y u s2 R2 r2 m2 => ⟨Hd, es, eh2, xc, _, (R.step s1 R1).step s2 R2, (xo.step s1).step s2, m2, fun eh3 H3 z w s3 R3 r3 ⟨kvs, key, h3, hk, m3, m4⟩ => ?_⟩⟩
    obtain ⟨us, hd, rk⟩ := R3.ob p _ h3
    have lv := lookup_valV (k := key) rk
    have st : Step eh3 H3 (eupd eh3 p (some (.dct (dropKE kvs key)))) (upd H3 p (.dK (dropK us key))) := .write R3 h3
    refine ⟨us, key, hd, keyE_of r2 hk, fun v hv => ?_, fun hn => ?_⟩
    · cases hg : getK kvs key with
      | none => rw [lv.2 hg] at hv; cases hv
      | some t =>
        obtain ⟨tv, h1, h2⟩ := lv.1 t hg
        rw [h1] at hv; cases hv
        exact k _ _ t _ (s1.trans (s2.trans (s3.trans st))) (R3.write h3 ⟨_, upd_same, (rk.step st).drop⟩) (h2.step st) (m3 t hg)
    · cases hg : getK kvs key with
      | none => exact k eh3 H3 z w (s1.trans (s2.trans s3)) R3 r3 (m4 hg)
      | some t => obtain ⟨tv, h1, _⟩ := lv.1 t hg; rw [h1] at hn; cases hn⟩
/-! ### x.split(b) -/
def oSplit : EV → EOL := fun x xs eh q => ∃ a b, x = .str a ∧ xs = [.str b] ∧ (b.length == 0) = false ∧ a.length + 2 ≤ sizeLine ∧ q (.lst ((Txt.split a b).map .str)) eh
theorem mt_split_e : MtR X "str.split" (UM X.K X.mg oSplit) := by
  intro pins s σ H v vs u us Q I r1 r2 h
  obtain ⟨Hd, eh, x, xs, q, R, rx, rxs, ⟨a, b, rfl, rfl, hb, hz, m⟩, k⟩ := h
  cases rx
  obtain ⟨w, rfl, rw'⟩ := one_of rxs
  cases rw'
  exact mt_split pins s σ H _ _ u us Q I r1 r2 ⟨a, b, rfl, rfl, hb, hz, fun p hp => k eh _ (.lst _) (.ref p) (.newF hp) (R.newF hp) ⟨p, _, rfl, upd_same, ⟨R.fresh hp, R.notHid hp⟩, .of_strs _⟩ m⟩
/-! ### bs.index(b), bs.count(b) of bools -/
def oIndexB : EV → EOL := fun x xs eh q => ∃ (ys : List Bool) (b : Bool) (j : Nat), lstE eh x = some (ys.map .bl) ∧ xs = [.bl b] ∧ ys[j]? = some b ∧ (∀ m, m < j → ys[m]? ≠ some b) ∧ q (.int j) eh
theorem mt_index_e : MtR X "list.index" (UM X.K X.mg oIndexB) := by
  intro pins s σ H v vs u us Q I r1 r2 h
  obtain ⟨Hd, eh, x, xs, q, R, rx, rxs, ⟨ys, b, j, hl, rfl, hj, hn, m⟩, k⟩ := h
  obtain ⟨w, rfl, rw'⟩ := one_of rxs
  cases rw'
  obtain ⟨a, ws, rfl, ha, rr⟩ := lst_of R rx hl
  have e := rr.bools
  subst e
  refine mt_index pins s σ H _ _ u us Q I r1 r2 ⟨a, _, .bl b, j, .bl b, rfl, rfl, .inl (.inl ha), rfl, List.all_eq_true.mpr fun z hz => ?_, by simp [hj], by show (b == b) = true; exact beq_self_eq_true b, fun i z hi hz => ?_, k eh H (.int j) (.int (j : Nat)) .refl R rfl m⟩
  · obtain ⟨c, _, rfl⟩ := List.mem_map.mp hz; rfl
  · rw [List.getElem?_map, Option.map_eq_some_iff] at hz
    obtain ⟨c, hc, rfl⟩ := hz
    show (c == b) = false
    refine beq_eq_false_iff_ne.mpr fun z => ?_
    subst z
    exact hn i hi hc
def oCountB : EV → EOL := fun x xs eh q => ∃ (ys : List Bool) (b : Bool), lstE eh x = some (ys.map .bl) ∧ xs = [.bl b] ∧ q (.int (ys.countP (· == b) : Nat)) eh
theorem vals_bools : ∀ {ys : List Bool} {us : List Value}, Vals (ys.map V.bl) us → us = ys.map Value.bool
  | [], _, .nil => rfl
  | y :: ys, _, .cons r t => by cases r; rw [vals_bools t]; rfl
theorem mt_count_b : MtR X "list.count" (UM X.K X.mg oCountB) := by
  intro pins s σ H v vs u us Q I r1 r2 h
  obtain ⟨Hd, eh, x, xs, q, R, rx, rxs, ⟨ys, b, hl, rfl, m⟩, k⟩ := h
  obtain ⟨w, rfl, rw'⟩ := one_of rxs
  cases rw'
  obtain ⟨a, ws, rfl, ha, rr⟩ := lst_of R rx hl
  have e := rr.bools
  subst e
  cases r1
  obtain ⟨c, rfl, rc⟩ := r2.one
  cases rc
  obtain ⟨its, rv, ⟨⟨cls, dd, data, sl⟩, n, ho, hc, hdn, hd⟩, hlen⟩ := I.list (.inl (.inl ha))
  simp only at hc hd
  subst hc hd
  have ev := vals_bools rv
  subst ev
  refine call_meets PySem.F.slot_list_count ⟨_, ho, rfl⟩ PySem.F.entry_list_count (PySem.F.args_list_count_2 _ _)
    (SeqAt.list_countAt a (ys.map Value.bool).toArray n dd sl (.bool b) (isBoolOf b)) ⟨ho, fun y hy => ?_, ?_⟩
  · obtain ⟨c, _, rfl⟩ := List.mem_map.mp (List.mem_toArray.mp (by exact hy))
    exact SeqAt.EqAt.bool_bool c b
  · have ec : (ys.map Value.bool).toArray.toList.countP (isBoolOf b) = ys.countP (· == b) := by
      show (ys.map Value.bool).countP (isBoolOf b) = _
      rw [List.countP_map]; rfl
    refine ⟨.int (ys.countP (· == b) : Nat), H, I.tok _, ⟨s.toks, ?_⟩, k eh H (.int _) (.int _) .refl R rfl m⟩
    show Value.int (((ys.map Value.bool).toArray.toList.countP (isBoolOf b) : Nat) : Int) s.toks = _
    rw [ec]
/-! ### isinstance(e, (A, B, ..)) -/
def bIsT (es : List Str) : EOL := fun xs eh q => ∃ (C : Str) (y : EV) (ds : List Str), xs = [.exc C y, .tup (ds.map .glo)] ∧ C ∈ es ∧ (∀ d ∈ ds, d ∈ es) ∧ q (.bl (ds.any (isX C))) eh
theorem cb_isT {es : List Str} {g D : Addr} (W : XErr X.K X.prog X.mg X.base es g D) : CallR X (.builtin "isinstance") (UL X.K X.mg (bIsT es)) := by
  intro pins s σ H xs us Q I r h
  obtain ⟨Hd, eh, ys, q, R, ry, ⟨Cn, y, ds, rfl, hC, hds, m⟩, k⟩ := h
  obtain ⟨v1, v2, rfl, ⟨a, C, d, v, rfl, hm, hA, hD, n1, n2, ry'⟩, r2⟩ := two_of ry
  obtain ⟨b, ws, rfl, ht, rl⟩ := r2
  obtain ⟨C', hm', T, Z, _, hk⟩ := W.at_ Cn hC
  rw [hm] at hm'; cases hm'
  obtain ⟨oe, od, at_, _⟩ := exc_at I hA hD
  have hc : (PySem.W.clsIn X.K C).isSome = true := by obtain ⟨cd, hc, _⟩ := PySem.W.any_some Z.hd; rw [hc]; rfl
  have eu : us = [.ref a, .ref b] := by
    cases r with
    | cons ra rr => cases rr with
      | cons rb rr => cases rr; cases ra; cases rb; rfl
  subst eu
  obtain ⟨its, rv, ⟨⟨cls, dd, data, sl⟩, h1, h2, n, h3⟩, hz⟩ := I.tuple ht
  simp only at h2 h3
  subst h2 h3
  have key : ∀ {ds : List Str} {ws : List V} {its : List Value}, (∀ d ∈ ds, d ∈ es) → RpL X.K X.mg Hd eh H (ds.map .glo) ws → Vals ws its → PySem.W.kitAny X.K (.ref C) its = some (ds.any (isX Cn)) := by
    intro ds
    induction ds with
    | nil => intro ws its _ rl rv; cases rl; cases rv; rfl
    | cons d ds ih =>
      intro ws its hd rl rv
      obtain ⟨w, ws', rfl, ⟨u, hu, ru⟩, rl'⟩ := rl
      cases rv with
      | cons rw' rv' =>
        obtain ⟨Cd, hmd, _⟩ := W.at_ d (hd d (by simp))
        rw [hmd] at hu; cases hu
        obtain rfl := relV_ref ru
        cases rw'
        have e1 := (hk d (hd d (by simp)) Cd hmd).1
        have e2 := ih (fun z hz => hd z (by simp [hz])) rl' rv'
        unfold PySem.W.kitAny
        rw [e1]
        cases hx : isX Cn d with
        | true => simp [hx]
        | false => simp only [List.any_cons, hx, Bool.false_or]; exact e2
  exact PySem.W.kia_tup (PySem.W.kitx_exc hc Z.ga Z.gg Z.be Z.cl Z.gs Z.tk Z.ob) I.kIn at_ h1 (key hds rl rv) (fun z => nomatch z) fun tk => ⟨.bl _, H, I.kept (t' := tk) fun _ _ z => z, rfl, k eh H (.bl _) (.bl _) .refl R rfl m⟩
/-! ### repr of a dict whose values hold no lists -/
mutual
def flE : EV → Bool
  | .non => true
  | .bl _ => true
  | .int _ => true
  | .str _ => true
  | .tup xs => flEL xs
  | _ => false
def flEL : List EV → Bool
  | [] => true
  | x :: xs => flE x && flEL xs
end
mutual
theorem flE_reads {pins : List (Addr × Obj)} {σ : L2.St} {H : Hp} {s : Shared} {Hd : Addr → Prop} {eh : Eh} (I : Inv X pins σ H s) : ∀ {x : EV} {v : V} {u : Value}, flE x = true → Rp X.K X.mg Hd eh H x v → RelV v u → Reads s.heap u (D x) []
  | .non, _, _, _, r, q => by cases r; cases q; exact .none
  | .bl b, _, _, _, r, q => by cases r; cases q; exact .bool b
  | .int i, _, _, _, r, q => by cases r; obtain ⟨t, rfl⟩ := q; exact .int i t
  | .str x, _, _, _, r, q => by cases r; obtain ⟨t, rfl⟩ := q; exact .str x t
  | .tup xs, _, _, f, r, q => by
    obtain ⟨a, vs, rfl, ht, r⟩ := r
    cases q
    obtain ⟨its, rv, ⟨o, e1, e2, n, e3⟩, hz⟩ := I.tuple ht
    exact .tuple e1 e2 e3 (by simpa using flEL_reads I (show flEL xs = true from f) r rv)
theorem flEL_reads {pins : List (Addr × Obj)} {σ : L2.St} {H : Hp} {s : Shared} {Hd : Addr → Prop} {eh : Eh} (I : Inv X pins σ H s) : ∀ {xs : List EV} {vs : List V} {us : List Value}, flEL xs = true → RpL X.K X.mg Hd eh H xs vs → Vals vs us → ReadsAll s.heap us (DL xs) []
  | [], _, _, _, r, q => by cases r; cases q; exact .nil
  | x :: xs, _, _, f, ⟨v, vs, e, h, t⟩, q => by
    subst e
    cases q with
    | cons ra rr =>
      have f' : flE x = true ∧ flEL xs = true := by simpa [flEL] using f
      exact .cons (flE_reads I f'.1 h ra) (flEL_reads I f'.2 t rr)
end
def kD : Key → PyData
  | .inl i => .int i
  | .inr x => .str x
def dD (kvs : List (Key × EV)) : PyData := .dict (kvs.map fun p => (kD p.1, D p.2))
def bReprD : EOL := fun xs eh q => ∃ x kvs, xs = [x] ∧ dctE eh x = some kvs ∧ (∀ p ∈ kvs, flE p.2 = true) ∧ (dD kvs).showable = true ∧ (dD kvs).depth ≤ 60 ∧ (dD kvs).shown.length ≤ sizeLine ∧ q (.str (dD kvs).shown) eh
theorem kD_reads {h : Heap} {k : Key} {u : Value} {P : Program} {w : World} (e : (mixKind P w).is k u = true) : Reads h u (kD k) [] := by
  rcases keyIs_shape (show keyIs k u = true from e) with ⟨i, t, rfl, rfl⟩ | ⟨x, t, rfl, rfl⟩
  · exact .int i t
  · exact .str x t
theorem cb_reprD {k : Nat} (hr : RoomG k X.A) : CallR X (.builtin "repr") (UL X.K X.mg bReprD) := by
  intro pins s σ H xs us Q I r h
  obtain ⟨Hd, eh, ys, q, R, ry, ⟨x, kvs, rfl, hx, hf, hs, hz, hl, m⟩, k⟩ := h
  obtain ⟨v, rfl, rx⟩ := one_of ry
  obtain ⟨a, ws, rfl, rd, rk⟩ := dct_of R rx hx
  obtain ⟨u, rfl, ru⟩ := vals1 r
  cases ru
  obtain ⟨_, hsm, vs, kv, o, es, ep, h1, h2, h3, h4, h5, h6⟩ := dk_rd I.hok rd
  have key : ∀ {kvs : List (Key × EV)} {ws : List (Key × V)} {vs : List (Key × Value)} {es : List DictEntry}, (∀ p ∈ kvs, flE p.2 = true) → RpK X.K X.mg Hd eh H kvs ws → KV ws vs → Pairs (mixKind X.prog X.w) es vs →
      ReadsAll s.heap (es.map (·.key)) (kvs.map fun p => kD p.1) [] ∧ ReadsAll s.heap (es.map (·.val)) (kvs.map fun p => D p.2) [] := by
    intro kvs
    induction kvs with
    | nil => intro ws vs es _ rk kv ps; cases rk; cases kv; cases ps; exact ⟨.nil, .nil⟩
    | cons p kvs ih =>
      intro ws vs es hf rk kv ps
      obtain ⟨k, y⟩ := p
      obtain ⟨w, r', rfl, ry, rk'⟩ := rk
      cases kv with
      | cons hp kv' =>
        cases ps with
        | cons g1 g2 g3 =>
          obtain ⟨i1, i2⟩ := ih (fun z hz => hf z (by simp [hz])) rk' kv' g3
          have f1 := hf (k, y) (by simp)
          rw [← hp.1] at g1
          have c1 := ReadsAll.cons (kD_reads (h := s.heap) g1) i1
          have c2 := ReadsAll.cons (flE_reads I f1 ry hp.2) i2
          rw [← g2] at c2
          exact ⟨c1, c2⟩
  obtain ⟨k1, k2⟩ := key hf rk kv h5
  have rds : Reads s.heap (.ref a) (dD kvs) (a :: [] ++ []) := .dict h1 h2.1 h3 (by rw [List.map_map]; exact k1) (by rw [List.map_map]; exact k2)
  have := hr.units
  refine repr_of_reads' rds hs (fun _ z => ?_) hr.g (by omega) (fun _ _ e => e) (fun h' t tk kp => ?_) hl
  · simp only [List.append_nil, List.mem_singleton] at z
    rw [← z] at hsm
    exact absurd hsm (by simp)
  · exact ⟨.str (dD kvs).shown, H, I.kept kp, ⟨t, rfl⟩, k eh H (.str _) _ .refl R rfl m⟩
end
end VM

/-! VMX6: sorted(xs) of data (tuples of the same build); calls that never raise within a try's body. -/
namespace VM
open PySem PySem.Spec PyProof.Rows L2
def sortT (xs : List EV) : List EV := xs.mergeSort (W.dataLe false D)
def bSortT : EOL := fun xs eh q => ∃ x ys, xs = [x] ∧ lstE eh x = some ys ∧ ys.all isD = true ∧ W.AllAlike (ys.map D) ∧ W.Sortable (ys.map D) ∧ (∀ y ∈ ys, (D y).depth ≤ 60) ∧ q (.lst (sortT ys)) eh
section
variable {X : Cx}
theorem cb_sortT {k : Nat} (hr : RoomG k X.A) : CallR X (.builtin "sorted") (UL X.K X.mg bSortT) := by
  intro pins s σ H vs0 us Q I r h
  obtain ⟨Hd, eh, zs, q, R, rz, ⟨x, xs, rfl, hx, hd, hal, hsk, hdp, m⟩, kk⟩ := h
  obtain ⟨v, rfl, rx⟩ := one_of rz
  obtain ⟨a, vs, rfl, ha, rl⟩ := lst_of R rx hx
  rw [Vals.ref1 r]
  obtain ⟨its, rv, hls, hz⟩ := I.list (.inl (.inl ha))
  have hlen : vs.length = xs.length := rl.length.symm
  have hzs := zip_snd (as := vs) (bs := xs) hlen
  have hea : W.EachIs (fun (u : Value) (b : V × EV) => RelV b.1 u ∧ Rp X.K X.mg Hd eh H b.2 b.1) its (vs.zip xs) := by
    refine eachIs_zip (by rw [List.length_zip, ← rv.length, hlen, Nat.min_self]) fun i u b hu hb => ?_
    rw [List.getElem?_zip_eq_some] at hb
    obtain ⟨x', hx', r'⟩ := rl.get' hb.1
    rw [hb.2] at hx'; cases hx'
    obtain ⟨u', hu', rr'⟩ := rv.get hb.1
    rw [hu] at hu'; cases hu'
    exact ⟨rr', r'⟩
  have hmem : ∀ b ∈ vs.zip xs, b.2 ∈ xs := fun b hb => (List.of_mem_zip hb).2
  have her : W.EachIs (fun (u : Value) (b : V × EV) => ∃ as, Reads s.heap u (D b.2) as) its (vs.zip xs) := by
    refine eachIs_zip (by rw [List.length_zip, ← rv.length, hlen, Nat.min_self]) fun i u b hu hb => ?_
    have hb' : b ∈ vs.zip xs := List.mem_of_getElem? hb
    obtain ⟨u', hu', h1, h2⟩ := eachIs_get hea i b hb
    rw [hu] at hu'; cases hu'
    exact (Dat.of eh (List.all_eq_true.mp hd b.2 (hmem b hb'))).reads I R _ _ h2 h1
  have hmap : (vs.zip xs).map (fun b => D b.2) = xs.map D := by
    have : (vs.zip xs).map (fun b => D b.2) = ((vs.zip xs).map (·.2)).map D := by rw [List.map_map]; rfl
    rw [this, hzs]
  refine PySem.W.sorted_data (β := V × EV) (enc := fun b => D b.2) hls.isList hea her (by rw [hmap]; exact hal) (by rw [hmap]; exact hsk) (by rw [List.length_zip, hlen, Nat.min_self]; omega) (fun b hb => ?_) fun out ho hout => ?_
  · have h1 := hdp b.2 (hmem b hb)
    have := hr.units
    omega
  · have ep := each_vals hout
    have hL2 : ((vs.zip xs).mergeSort (W.dataLe false fun b => D b.2)).length ≤ sizeLine := by
      rw [(List.mergeSort_perm _ _).length_eq, List.length_zip, hlen, Nat.min_self]; omega
    have hrp : RpL X.K X.mg Hd eh H (((vs.zip xs).mergeSort (W.dataLe false fun b => D b.2)).map (·.2)) (((vs.zip xs).mergeSort (W.dataLe false fun b => D b.2)).map (·.1)) := rpL_of fun b hb => by
      have hb' := (List.mergeSort_perm _ _).mem_iff.mp hb
      obtain ⟨i, hi⟩ := mem_get hb'
      obtain ⟨u, _, h2⟩ := eachIs_get hea i b hi
      exact h2.2
    have hsort : ((vs.zip xs).mergeSort (W.dataLe false fun b => D b.2)).map (·.2) = sortT xs := by
      rw [PySem.W.sort_maps (r := W.dataLe false fun b : V × EV => D b.2) (s := W.dataLe false D) (fun b : V × EV => b.2) (fun _ _ _ _ => rfl), hzs]; rfl
    rw [hsort] at hrp
    obtain ⟨ep2, he'⟩ := PyProof.Rows.sortedAll_at s.heap its out.toArray
    have n2 : H (s.heap.objs.size + 1) = none := I.hok.fresh (Nat.le_succ _)
    refine ⟨.ref _, upd H (s.heap.objs.size + 1) (.lst (((vs.zip xs).mergeSort (W.dataLe false fun b => D b.2)).map (·.1))), I.laid (t' := s.toks) (fun _ _ => PyProof.Rows.sortedAll_old) (Nat.le_succ _) ⟨by rw [List.length_map]; exact hL2, out, ep2, ep, by simpa using he'⟩, rfl, ?_⟩
    have st : Step eh H eh (upd H (s.heap.objs.size + 1) (.lst (((vs.zip xs).mergeSort (W.dataLe false fun b => D b.2)).map (·.1)))) := .newF n2
    exact kk eh _ (.lst (sortT xs)) (.ref _) st (R.newF n2) ⟨_, _, rfl, upd_same, ⟨R.fresh n2, R.notHid n2⟩, hrp.step st⟩ m
end
/-- a reading for all that is wished of exceptions -/
theorem pe_all {X : Cx} {e : Expr} {W : WX} {m : ME} (h : ∀ E, PE X e (U X.K X.mg E m)) : PE X e (fun σ H Q => U X.K X.mg (WE W σ) m σ H Q) := ⟨fun pins s σ H Q I w => (h (WE W σ)).run pins s σ H Q I w⟩
end VM

/-! VMX7: texts: partition, count, endswith, join, int(text), str(int), text * int, text[i]; a, b = list; calls of raising defs that are shown not to raise; [f(x)] in a try; == of texts in an except suite. -/
namespace VM
open PySem PySem.Spec PyProof.Rows L2
section
variable {X : Cx} {E : XK} {e : Expr} {ma : ME} {pos : Pos}
/-! ### methods of texts -/
def oPart : EV → EOL := fun x xs eh q => ∃ a b, x = .str a ∧ xs = [.str b] ∧ (b.length == 0) = false ∧ a.length ≤ sizeLine ∧ q (.tup [.str (Txt.partition a b).1, .str (Txt.partition a b).2.1, .str (Txt.partition a b).2.2]) eh
theorem mt_part : MtR X "str.partition" (UM X.K X.mg oPart) := by
  intro pins s σ H v vs u us Q I r1 r2 h
  obtain ⟨Hd, eh, x, xs, q, R, rx, rxs, ⟨a, b, rfl, rfl, hb, hz, m⟩, k⟩ := h
  cases rx
  obtain ⟨w, rfl, rw'⟩ := one_of rxs
  cases rw'
  exact mt_partition pins s σ H _ _ u us Q I r1 r2 ⟨a, b, rfl, rfl, hb, hz, fun p hp => k eh _ (.tup _) (.ref p) (.newF hp) (R.newF hp) ⟨p, _, rfl, .inl (.inl upd_same), .of_strs [(Txt.partition a b).1, (Txt.partition a b).2.1, (Txt.partition a b).2.2]⟩ m⟩
def oCountS : EV → EOL := fun x xs eh q => ∃ a b, x = .str a ∧ xs = [.str b] ∧ q (.int (Txt.count a b)) eh
theorem mt_countS : MtR X "str.count" (UM X.K X.mg oCountS) := by
  intro pins s σ H v vs u us Q I r1 r2 h
  obtain ⟨Hd, eh, x, xs, q, R, rx, rxs, ⟨a, b, rfl, rfl, m⟩, k⟩ := h
  cases rx
  obtain ⟨w, rfl, rw'⟩ := one_of rxs
  cases rw'
  exact mt_count pins s σ H _ _ u us Q I r1 r2 ⟨a, b, rfl, rfl, k eh H (.int _) (.int _) .refl R rfl m⟩
def oEnds : EV → EOL := fun x xs eh q => ∃ a b, x = .str a ∧ xs = [.str b] ∧ q (.bl (Txt.endswith a b)) eh
theorem mt_ends : MtR X "str.endswith" (UM X.K X.mg oEnds) := by
  intro pins s σ H v vs u us Q I r1 r2 h
  obtain ⟨Hd, eh, x, xs, q, R, rx, rxs, ⟨a, b, rfl, rfl, m⟩, k⟩ := h
  cases rx
  obtain ⟨w, rfl, rw'⟩ := one_of rxs
  cases rw'
  exact mt_endswith pins s σ H _ _ u us Q I r1 r2 ⟨a, b, rfl, rfl, k eh H (.bl _) (.bl _) .refl R rfl m⟩
def oJoin : EV → EOL := fun x xs eh q => ∃ a y ys, x = .str a ∧ xs = [y] ∧ seqE eh y = some (ys.map .str) ∧ (ys.map (·.length)).sum + ys.length * a.length ≤ 16777216 ∧ q (.str (Txt.join a ys)) eh
theorem rpL_strsI {K mg Hd eh H} : ∀ {ks : List Str} {vs : List V}, RpL K mg Hd eh H (ks.map EV.str) vs → vs = ks.map V.str
  | [], _, h => h
  | _ :: ks, _, ⟨v, r, e, h1, h2⟩ => by rw [e, rpL_strsI h2, show v = _ from h1]; rfl
theorem mt_join_e : MtR X "str.join" (UM X.K X.mg oJoin) := by
  intro pins s σ H v vs u us Q I r1 r2 h
  obtain ⟨Hd, eh, x, xs, q, R, rx, rxs, ⟨a, y, ys, rfl, rfl, hy, hz, m⟩, k⟩ := h
  cases rx
  obtain ⟨w, rfl, rw'⟩ := one_of rxs
  obtain ⟨p, ws, rfl, hs, rr⟩ := seq_of R rw' hy
  obtain rfl := rpL_strsI rr
  exact mt_join pins s σ H _ _ u us Q I r1 r2 ⟨a, p, ys, rfl, rfl, hs, hz, k eh H (.str _) (.str _) .refl R rfl m⟩
/-! ### int(text), str(int) -/
def bIntX : EOL := fun xs eh q => bInt xs eh q ∨ ∃ a n, xs = [.str a] ∧ PySem.intText? a = some n ∧ a.length ≤ 640 ∧ q (.int n) eh
theorem cb_intX : CallR X (.type "int") (UL X.K X.mg bIntX) := by
  intro pins s σ H xs us Q I r h
  obtain ⟨Hd, eh, ys, q, R, ry, m, k⟩ := h
  rcases m with m | ⟨a, n, rfl, hn, hl, m⟩
  · exact cb_int pins s σ H xs us Q I r ⟨Hd, eh, ys, q, R, ry, m, k⟩
  · obtain ⟨v, rfl, rv⟩ := one_of ry
    cases rv
    exact call_int_str pins s σ H _ us Q I r ⟨a, n, rfl, hn, hl, k eh H (.int n) (.int n) .refl R rfl m⟩
def bStr : EOL := fun xs eh q => ∃ i : Int, xs = [.int i] ∧ i.natAbs.log2 < 1920 ∧ q (.str (toString i)) eh
theorem cb_str : CallR X (.type "str") (UL X.K X.mg bStr) := by
  intro pins s σ H xs us Q I r h
  obtain ⟨Hd, eh, ys, q, R, ry, ⟨i, rfl, hi, m⟩, k⟩ := h
  obtain ⟨v, rfl, rv⟩ := one_of ry
  cases rv
  exact call_str_int pins s σ H _ us Q I r ⟨i, rfl, hi, k eh H (.str _) (.str _) .refl R rfl m⟩
/-! ### text * int -/
def repS (a : Str) (n : Nat) : Str := ⟨(List.replicate n a.cps).foldl (· ++ ·) #[]⟩
theorem repS_len (a : Str) (n : Nat) : (repS a n).length = n * a.length := by
  have e : ∀ (n : Nat) (acc : Array Nat), ((List.replicate n a.cps).foldl (· ++ ·) acc).size = acc.size + n * a.cps.size := by
    intro n
    induction n with
    | zero => intro acc; simp
    | succ n ih => intro acc; rw [List.replicate_succ, List.foldl_cons, ih, Array.size_append, Nat.succ_mul]; omega
  have := e n #[]
  show ((List.replicate n a.cps).foldl (· ++ ·) #[]).size = n * a.cps.size
  simpa using this
def oMulS : EO2 := fun x y eh q => ∃ (a : Str) (n : Nat), x = .str a ∧ y = .int n ∧ 2 ≤ n ∧ n ≤ 1000 ∧ 1 ≤ a.length ∧ a.length ≤ 1000 ∧ q (.str (repS a n)) eh
theorem op_mulS : OpR X (binaryOp .Mult) (U2 X.K X.mg oMulS) := by
  intro pins s σ H v u a b Q I r1 r2 h
  obtain ⟨Hd, eh, x, y, q, R, rx, ry, ⟨z, n, rfl, rfl, h1, h2, h3, h4, m⟩, k⟩ := h
  cases rx; cases ry
  obtain ⟨t, rfl⟩ := r1
  obtain ⟨t', rfl⟩ := r2
  have hn : ¬ (n : Int) < 1 := by omega
  have hm : z.length * n ≤ 1000 * 1000 := Nat.mul_le_mul h4 h2
  have hne : ((n : Int) == 1 || z.length == 0) = false := by
    rw [Bool.or_eq_false_iff]
    exact ⟨beq_eq_false_iff_ne.mpr (by omega), beq_eq_false_iff_ne.mpr (by omega)⟩
  have e : sizeLine = 16777216 := rfl
  have hl : Builtin.Str.tooLong (z.length * (n : Int).toNat) = false := by
    rw [Int.toNat_natCast]
    unfold Builtin.Str.tooLong
    exact decide_eq_false (by omega)
  refine PySem.P.mul_str (by
    have e1 : decide ((n : Int) < -(2 ^ 63 : Int)) = false := decide_eq_false (by omega)
    have e2 : decide ((n : Int) ≥ 2 ^ 63) = false := decide_eq_false (by omega)
    rw [e1, e2]; rfl) (fun _ _ => ?_) (fun _ _ => hl) ?_
  · have h5 : (z.length : Int) ≤ (2 ^ 63 - 1) / (n : Int) := by
      rw [Int.le_ediv_iff_mul_le (by omega)]
      have : ((z.length * n : Nat) : Int) ≤ 1000000 := by omega
      rw [Int.natCast_mul] at this
      omega
    omega
  · rw [if_neg hn, if_neg (by rw [hne]; exact Bool.false_ne_true), Int.toNat_natCast]
    refine ⟨?_, .str (repS z n), H, I.tok _, ⟨_, rfl⟩, k eh H (.str _) (.str _) .refl R rfl m⟩
    show (repS z n).length ≤ sizeLine
    rw [repS_len, Nat.mul_comm]; omega
/-! ### text[i] -/
def oIxS : EO2 := fun x y eh q => ∃ z i c, x = .str z ∧ y = .int i ∧ z.length ≤ sizeLine ∧ L2.atI z.cps.toList i = some c ∧ q (.str ⟨#[c]⟩) eh
theorem ix_strE : IxR X (U2 X.K X.mg oIxS) := by
  intro value slice pins s σ H x y v u Q I rx ry h hs
  obtain ⟨Hd, eh, x', y', q, R, rx', ry', ⟨z, i, c, rfl, rfl, hz, hc, m⟩, k⟩ := h
  cases rx'; cases ry'
  exact ix_str value slice pins s σ H _ _ v u Q I rx ry ⟨z, i, c, rfl, rfl, hz, hc, k eh H (.str _) (.str _) .refl R rfl m⟩ hs
/-! ### a, b = list -/
def sAsgL (ts : List Tg) (m : ME) : MS := fun xc d es eh => m xc es eh fun x eh1 => ∃ xs es', lstE eh1 x = some xs ∧ asgL ts xs es = some es' ∧ d.nx es' eh1
theorem rs_asgL {es : List Expr} {kk : Nat} {p : Pos} {ts : List Tg} (hc : X.calm = true) (he : PE X e (U X.K X.mg E ma)) (hg : PGs X es (UGs X.K X.mg ts)) (hn : (assignEach es X.env).length = ts.length := by rfl)
    (hst : (assignEach es X.env).findIdx? (·.1) = none := by rfl) (hs : swapsWithSole [.Tuple es kk p] e pos.line X.env = pure false := by rfl) (hw : swappedStores [.Tuple es kk p] e X.env = pure none := by rfl)
    (h1 : (assignEach [.Tuple es kk p] X.env).map (·.2) = [assign (.Tuple es kk p) X.env] := by rfl) : PS X (.Assign [.Tuple es kk p] e pos) (US X.K X.mg E (sAsgL ts ma)) :=
  PS.imp (ps_asg he (pg_lst hc hg hn hst) hs hw h1) fun D σ H ⟨Hd, es, eh, xc, d, R, xo, m, k1, k2, k3, k4⟩ => ⟨Hd, es, eh, xc, _, R, xo, m, fun eh1 H1 x v s1 R1 r1 ⟨xs, es', hx, ea, m1⟩ => by
    obtain ⟨a, vs, rfl, ha, rr⟩ := lst_of R1 r1 hx
    exact ⟨a, vs, rfl, .inl (.inl ha), by rw [← rr.length, asgL_length ea], Hd, es, eh1, xs, es', R.step s1 R1, rr, ea, fun σ' R' _ _ => k1 es' eh1 σ' H1 s1 R' m1⟩⟩
/-! ### calls of defs that may raise, where they do not -/
def mNox (m : ME) : ME := fun _ es eh q => m xF es eh q
theorem re_nox {m : ME} (h : PE X e (U X.K X.mg (fun _ _ _ => False) m)) : PE X e (U X.K X.mg E (mNox m)) :=
  PE.imp h fun σ H Q ⟨Hd, es, eh, xc, q, R, xo, mm, k⟩ => ⟨Hd, es, eh, xF, q, R, fun _ _ _ _ _ _ _ _ _ _ _ _ hx => hx, mm, k⟩
theorem pass_noX {X : Cx} : Passes (L2N.CX X.prog X.w) X (fun _ _ _ => False) := fun pins σ H s e s' I h => by
  obtain ⟨_, _, _, _, _, _, _, _, _, _, _, _, hE⟩ := h
  exact hE.elim
/-! ### return [f(x)] in a try -/
theorem re_lst1W {W : WX} {m : ME} (he : PE X e (fun σ H Q => U X.K X.mg (WE W σ) m σ H Q)) (hst : starEach [e] X.env = (false, eval e X.env) :: starEach [] X.env := by rfl) : PE X (.List [e] pos) (fun σ H Q => U X.K X.mg (WE W σ) (mLst (aCons m aNil)) σ H Q) :=
  PE.imp (pe_lst (pa_cons he pa_nil hst)) fun σ H Q ⟨Hd, es, eh, xc, q, R, xo, m, k⟩ => ⟨Hd, es, eh, xc, _, R, xo, m, fun eh1 H1 x v s1 R1 r1 m1 => ⟨by show 1 ≤ sizeLine; decide, fun p hp => k eh1 _ (.lst [x]) (.ref p) (s1.trans (.newF hp)) (R1.newF hp) ⟨p, [v], rfl, upd_same, ⟨R1.fresh hp, R1.notHid hp⟩, (RpL.one r1).step (.newF hp)⟩ m1.2⟩⟩
/-! ### == of texts, anywhere -/
def cEqT (neg : Bool) : EO2 := fun x y eh q => ∃ a b, x = .str a ∧ y = .str b ∧ q (.bl (neg ^^ decide (a = b))) eh
theorem op_neT : OpR X (compareOp .NotEq) (U2 X.K X.mg (cEqT true)) := by
  intro pins s σ H v u a b Q I r1 r2 h
  obtain ⟨Hd, eh, x, y, q, R, rx, ry, ⟨z, z', rfl, rfl, m⟩, k⟩ := h
  cases rx; cases ry
  exact op_ne pins s σ H _ _ a b Q I r1 r2 ⟨rfl, k eh H _ _ .refl R (by simp [Rp]) m⟩
end
end VM

/-! VMX8: {k: v for ..}, list(d.values()), count of texts, list(range(n)), tuple(range(n)), dict(pairs), {e: f}. -/
namespace VM
open PySem PySem.Spec PyProof.Rows L2
/-! ### t[::-1] of a tuple -/
section
variable {prog : Program} {w : World} {A : Around} {E : Value → Shared → Prop} {s : Shared}
theorem places_rev (n : Nat) : Builtin.Slice.sliceAdjust none none (-1) (n : Int) = ((n : Int) - 1, -1) ∧ Builtin.Slice.slicePlaces ((n : Int) - 1) (-1) (-1) = n := by
  refine ⟨rfl, ?_⟩
  unfold Builtin.Slice.slicePlaces
  rw [if_neg (by decide)]
  by_cases h : (n : Int) - 1 > -1
  · rw [if_pos h, show -(-1 : Int) = 1 from rfl, Int.ediv_one]; omega
  · rw [if_neg h]; omega
theorem pick_rev (xs : Array Value) : ((List.range xs.size).filterMap fun (m : Nat) => xs[((xs.size : Int) - 1 + (m : Int) * -1).toNat]?).toArray = xs.toList.reverse.toArray := by
  refine congrArg List.toArray (List.ext_getElem? fun j => ?_)
  have hall : ∀ (k : Nat), k ≤ xs.size → (List.range k).filterMap (fun (m : Nat) => xs[((xs.size : Int) - 1 + (m : Int) * -1).toNat]?) = (List.range k).map fun m => xs.toList.reverse.getD m .none := by
    intro k
    induction k with
    | zero => intro _; rfl
    | succ k ih =>
      intro hk
      rw [List.range_succ, List.filterMap_append, List.map_append, ih (by omega)]
      have e1 : ((xs.size : Int) - 1 + (k : Int) * -1).toNat = xs.size - 1 - k := by omega
      have hlt : xs.size - 1 - k < xs.size := by omega
      have e2 : xs[xs.size - 1 - k]? = some xs[xs.size - 1 - k] := Array.getElem?_eq_getElem hlt
      have e3 : xs.toList.reverse.getD k .none = xs[xs.size - 1 - k] := by
        rw [List.getD_eq_getElem?_getD, List.getElem?_reverse (by rw [Array.length_toList]; omega), Array.length_toList, Array.getElem?_toList, e2]; rfl
      simp only [List.filterMap_cons, List.filterMap_nil, e1, e2, List.map_cons, List.map_nil, e3]
  rw [hall _ (Nat.le_refl _)]
  by_cases hj : j < xs.size
  · rw [List.getElem?_map, List.getElem?_range hj, Option.map_some, List.getD_eq_getElem?_getD, List.getElem?_eq_getElem (by rw [List.length_reverse, Array.length_toList]; exact hj)]; rfl
  · rw [List.getElem?_eq_none (by simp; omega), List.getElem?_eq_none (by simp; omega)]
theorem getItem_tup_rev {t sl : Addr} {items : Array Value} {vs : Value} {Q : Value → Shared → Prop} (ht : IsTup s.heap t items) (hs : s.heap.IsSliceOf sl .none .none vs) (ps : IsPart vs (some (-1))) (hsz : items.size ≤ sizeLine)
    (h : Q (.ref s.heap.objs.size) { s with heap := s.heap.push { cls := .type "tuple", data := .seq items.toList.reverse.toArray } }) : wpAny (model prog w) A (getItem (.ref t) (.ref sl)) Q E s := by
  obtain ⟨os, hos, hcs, hds⟩ := id hs
  have hTs : s.TypeIs (.ref sl) "slice" := ⟨os, hos, hcs⟩
  have hfit : sizeOk (.seq items.toList.reverse.toArray) := by show items.toList.reverse.toArray.size ≤ sizeLine; simpa using hsz
  unfold getItem; try with_reducible refine wpAny_holding ?_
  first | refine wpAny_bind (wpAny_pure ?_) | skip
  refine wpAny_bind (wpAny_sequenceKey ht.typeIs (by decide) (wpAny_bind (wpAny_callSpecial?_slot (name := Str.ofString "__getitem__") ht.typeIs PyProof.Rows.slot_tuple_getitem (wpAny_call_entry PyProof.Rows.slot_tuple_getitem ht.typeIs entry_tuple_getitem ?_ (args_tuple_getitem _ _)))))
  show wpAny _ _ (Builtin.Tuple.tupleItemsOf (.ref t) >>= fun _ => _) _ _ s
  refine wpAny_bind (tupleItemsOf_ ht (wpAny_bind (wpAny_typeOf hTs ?_)))
  rw [if_pos (by decide)]
  refine wpAny_bind ?_
  · unfold Builtin.Slice.sliceApplied Builtin.Slice.sliceFields
    refine wpAny_bind (wpAny_bind (wpAny_field hos hds (x := .none) rfl (wpAny_bind (wpAny_field hos hds (x := .none) rfl (wpAny_bind (wpAny_field hos hds (x := vs) rfl (wpAny_pure ?_)))))))
    refine wpAny_bind (HT.slicePart_ ps ?_)
    show wpAny _ _ (if ((-1 : Int) == 0) = true then _ else _) _ _ s
    rw [if_neg (by decide)]
    refine wpAny_bind (slicePart_none (wpAny_bind (slicePart_none (wpAny_bind (wpAny_pure ?_)))))
    show wpAny _ _ (match Builtin.Slice.sliceAdjust none none (-1) (items.size : Int) with | (lo, hi) => pure (lo, (-1 : Int), Builtin.Slice.slicePlaces lo hi (-1))) _ _ s
    rw [(places_rev items.size).1]
    show wpAny _ _ (pure ((items.size : Int) - 1, (-1 : Int), Builtin.Slice.slicePlaces ((items.size : Int) - 1) (-1) (-1))) _ _ s
    rw [(places_rev items.size).2]
    refine wpAny_pure ?_
    show wpAny _ _ (if ((items.size : Int) - 1 == 0 && (-1 : Int) == 1 && items.size == items.size) = true then _ else _) _ _ s
    rw [if_neg (by simp), pick_rev]
    first
      | exact wpAny_bind (m := Builtin.Tuple.tupleExact _) (wpAny_newObj_type (wpAny_pure ⟨_, rfl, wpAny_pure h⟩) hfit)
      | exact wpAny_bind (m := Builtin.Tuple.tupleExact _) (wpAny_newObj_type (wpAny_bind (wpAny_pure (wpAny_pure ⟨_, rfl, wpAny_pure h⟩))) hfit)
      | exact wpAny_bind (wpAny_bind (m := Builtin.Tuple.tupleExact _) (wpAny_newObj_type (wpAny_pure (wpAny_pure ⟨_, rfl, wpAny_pure h⟩)) hfit))
      | exact wpAny_bind (wpAny_bind (m := Builtin.Tuple.tupleExact _) (wpAny_newObj_type (wpAny_pure ⟨_, rfl, wpAny_pure h⟩) hfit))
end
/-! ### {k: v for x in xs if t}: an explicit dict -/
def dcL (g : Tg) (tt : MT) (tk tv : ME) (vs : List Nat) (ok : Eh → Prop) (p : Addr) (q : KE) : List EV → Es → Eh → Prop
  | [], es, eh => ok eh ∧ q (.ref p) eh
  | x :: xs, es, eh => ok eh ∧ ∃ es', asg g x (wipeE es vs) = some es' ∧ tt xF es' eh fun b eh1 => match b with
    | true => tk xF es' eh1 fun y eh2 => tv xF es' eh2 fun z eh3 => ∃ kvs k, eh3 p = some (.dct kvs) ∧ keyE y = some k ∧ kvs.length < sizeLine ∧ dcL g tt tk tv vs ok p q xs es (eupd eh3 p (some (.dct (putKE kvs k z))))
    | false => dcL g tt tk tv vs ok p q xs es eh1
def mDComp (mi : MI) (g : Tg) (tt : MT) (tk tv : ME) (vs : List Nat) : ME := fun xc es eh q => mi xc es eh fun xs ok eh1 => ∀ p, eh1 p = none → dcL g tt tk tv vs ok p q xs es (eupd eh1 p (some (.dct [])))
section
variable {K : PySem.W.Frag} {mg : Str → Option Value} {E : XK}
theorem dc_lift {mi : MI} {g : Tg} {tt : MT} {tk tv : ME} {vs : List Nat} (hv : ∀ i ∈ slots g, i ∈ vs) : ∀ σ H Q, U K mg E (mDComp mi g tt tk tv vs) σ H Q → tDc (UI K mg E mi) (UG K mg g) (UT K mg E0 tt) (U K mg E0 tk) (U K mg E0 tv) vs σ H Q :=
  fun σ H Q ⟨Hd, es, eh, xc, q, R, xo, m, k⟩ => ⟨Hd, es, eh, xc, _, R, xo, m, fun ehA HA xs ok J sA RA jo mA D hD => by
    have hh : ∀ a, Hd a → Hd a ∨ HA a = none := fun a z => .inl z
    have sN : Step ehA HA (eupd ehA D (some (.dct []))) (upd HA D (.dK [])) := .new hD
    have R0 : Rh K mg Hd (eupd ehA D (some (.dct []))) (upd HA D (.dK [])) := RA.new (eo := .dct []) hD ⟨[], upd_same, rfl⟩
    have RlA := R.step sA RA
    refine ⟨fun i n H => ∃ eh, i + n = xs.length ∧ Step ehA HA eh H ∧ Rh K mg Hd eh H ∧ dcL g tt tk tv vs ok D q (xs.drop i) es eh, ⟨xs.length, _, by omega, sN, R0, mA D (RA.fresh hD)⟩, ?_⟩
    rintro i n H ⟨eh, hn, s1, R1, f⟩
    cases hd : xs.drop i with
    | nil =>
      rw [hd] at f
      have : xs.length ≤ i := by simpa using hd
      exact .inl ⟨jo.stop i _ eh H hh s1.w R1 f.1 this, k eh H (.ref D) (.ref D) (sA.trans s1) R1 rfl f.2⟩
    | cons x r =>
      rw [hd] at f
      obtain ⟨hx, hr, hl⟩ := drop_cons hd
      obtain ⟨o, es', ea, f⟩ := f
      refine .inr ⟨jo.go i _ eh H hh s1.w R1 o hl, fun H => ∃ eh, (i + 1) + (n - 1) = xs.length ∧ Step ehA HA eh H ∧ Rh K mg Hd eh H ∧ dcL g tt tk tv vs ok D q (xs.drop (i + 1)) es eh, fun H' w => ⟨n - 1, by omega, w⟩, fun v H2 y => ?_⟩
      obtain ⟨x', hx', s2, R2, r2, kp⟩ := jo.yld i _ eh H v H2 hh s1.w R1 o hl y
      rw [hx] at hx'; cases hx'
      have Rs : Rl K mg Hd eh H2 es σ := RlA.step (s1.trans s2) R2
      refine ⟨_, wipeE es vs, eh, x, es', Rs.wipe vs, r2, ea, fun σ3 R3 l3 s3 => ⟨?_, _, es', eh, xF, _, R3, .no, f, fun eh4 H4 b s4 R4 f4 => ?_⟩⟩
      · refine (wipe_same (σ := wipe σ vs) l3 fun i hi => s3 i fun z => hi (hv i z)).trans wipe_wipe
      · cases b with
        | true =>
          refine iteT ⟨_, es', eh4, xF, _, R3.step s4 R4, .no, f4, fun eh5 H5 y v s5 R5 r5 f5 => ⟨_, es', eh5, xF, _, (R3.step s4 R4).step s5 R5, .no, f5, fun eh6 H6 z w s6 R6 r6 ⟨kvs, key, e1, e2, hz, f6⟩ => ?_⟩⟩
          obtain ⟨us, h, t⟩ := R6.ob D _ e1
          have st : Step eh6 H6 (eupd eh6 D (some (.dct (putKE kvs key z)))) (upd H6 D (.dK (putK us key w))) := .write R6 e1
          refine ⟨us, key, keyE_of r5 e2, h, by rw [← t.length]; exact hz, _, by omega, s1.trans (s2.trans (s4.trans (s5.trans (s6.trans st)))), .write R6 e1 ⟨_, upd_same, (t.step st).put (r6.step st)⟩, by rw [hr]; exact f6⟩
        | false => exact iteF ⟨eh4, by omega, s1.trans (s2.trans s4), R4, by rw [hr]; exact f4⟩⟩
end
section
variable {X : Cx} {E : XK} {e kx vx tg iter : Expr} {ifs : List Expr} {scope : Scope} {own : List (Str × Nat)} {ma mk mv : ME} {mi : MI} {g : Tg} {tt : MT} {p pos : Pos}
theorem re_dcomp (hc : X.calm = true) (hN : X.N.Nodup) (hi : PI X tg iter (UI X.K X.mg E mi)) (ok : BlkOk X.N X.env.scope scope own)
    (hg : ∀ (s : Shared) (H : Hp) (C : Addr) (cl : List (Str × Addr)) (fp : List Addr), PG (X.blk s H scope (compEnvC scope cl C X.env) fp) tg (UG X.K X.mg g)) (ht : ∀ (s : Shared) (H : Hp) (C : Addr) (cl : List (Str × Addr)) (fp : List Addr), PTs (X.blk s H scope (compEnvC scope cl C X.env) fp) ifs (UT X.K X.mg E0 tt))
    (hk : ∀ (s : Shared) (H : Hp) (C : Addr) (cl : List (Str × Addr)) (fp : List Addr), PE (X.blk s H scope (compEnvC scope cl C X.env) fp) kx (U X.K X.mg E0 mk)) (he : ∀ (s : Shared) (H : Hp) (C : Addr) (cl : List (Str × Addr)) (fp : List Addr), PE (X.blk s H scope (compEnvC scope cl C X.env) fp) vx (U X.K X.mg E0 mv))
    (hv : ∀ i ∈ slots g, i ∈ own.map (·.2) := by decide) (hs : ∀ x, foldedSetIterable iter X.env x = pure x := by intro _; rfl) :
    PE X (.DictComp kx vx [⟨tg, iter, ifs, 0⟩] scope pos) (U X.K X.mg E (mDComp mi g tt mk mv (own.map (·.2)))) :=
  PE.imp (pe_dc hc hN hi ok hg ht hk he hs) (dc_lift hv)
/-! ### list(range(n)), tuple(range(n)) -/
def mLstRg (m : ME) : ME := fun xc es eh q => m xc es eh fun x eh1 => ∃ n : Nat, x = .int n ∧ n ≤ 1000 ∧ q (.lst ((List.range n).map fun i => .int ((i : Nat) : Int))) eh1
def mTupRg (m : ME) : ME := fun xc es eh q => m xc es eh fun x eh1 => ∃ n : Nat, x = .int n ∧ n ≤ 1000 ∧ q (.tup ((List.range n).map fun i => .int ((i : Nat) : Int))) eh1
theorem rgV_nat (n : Nat) : rgV 0 (n : Int) = ((List.range n).map fun i => ((i : Nat) : Int)).map V.int := by
  unfold rgV
  rw [List.map_map, show ((n : Int) - 0).toNat = n by omega]
  exact List.map_congr_left fun i _ => by show V.int (0 + (i : Int)) = V.int (i : Int); rw [Int.zero_add]
theorem rgE_nat (n : Nat) : ((List.range n).map fun i => EV.int ((i : Nat) : Int)) = ((List.range n).map fun i => ((i : Nat) : Int)).map EV.int := by rw [List.map_map]; rfl
theorem re_listRg {a : Expr} {p2 pos2 : Pos} (hc : X.calm = true) (hg : Gl X "list") (hm : X.mg "list" = none) (hg2 : Gl X "range") (hm2 : X.mg "range" = none) (ha : PE X a (U X.K X.mg E ma)) (na : starEach [a] X.env = (false, eval a X.env) :: starEach [] X.env := by rfl)
    (nb : starEach [.Call (.Name "range" p2) [a] [] pos2] X.env = (false, eval (.Call (.Name "range" p2) [a] [] pos2) X.env) :: starEach [] X.env := by rfl) : PE X (.Call (.Name "list" p) [.Call (.Name "range" p2) [a] [] pos2] [] pos) (U X.K X.mg E (mLstRg ma)) :=
  PE.imp (pe_listRg hc hg hm (prg_1 hg2 hm2 ha na) nb) fun σ H Q ⟨Hd, es, eh, xc, q, R, xo, m, k⟩ => ⟨Hd, es, eh, xc, _, R, xo, m, fun eh1 H1 x v s1 R1 r1 ⟨n, ex, hn, m1⟩ => by
    subst ex
    cases r1
    refine ⟨n, rfl, RgOk.of_le (Int.le_refl 0) (by omega) (by omega) (by omega), fun l hl => ?_⟩
    rw [rgV_nat]
    rw [rgE_nat] at m1
    exact k eh1 _ (.lst _) (.ref l) (s1.trans (.newF hl)) (R1.newF hl) ⟨l, _, rfl, upd_same, ⟨R1.fresh hl, R1.notHid hl⟩, .of_ints _⟩ m1⟩
theorem re_tupRg {a : Expr} {p2 pos2 : Pos} (hc : X.calm = true) (hg : Gl X "tuple") (hm : X.mg "tuple" = none) (hg2 : Gl X "range") (hm2 : X.mg "range" = none) (ha : PE X a (U X.K X.mg E ma)) (na : starEach [a] X.env = (false, eval a X.env) :: starEach [] X.env := by rfl)
    (nb : starEach [.Call (.Name "range" p2) [a] [] pos2] X.env = (false, eval (.Call (.Name "range" p2) [a] [] pos2) X.env) :: starEach [] X.env := by rfl) : PE X (.Call (.Name "tuple" p) [.Call (.Name "range" p2) [a] [] pos2] [] pos) (U X.K X.mg E (mTupRg ma)) :=
  PE.imp (pe_tupRg hc hg hm (prg_1 hg2 hm2 ha na) nb) fun σ H Q ⟨Hd, es, eh, xc, q, R, xo, m, k⟩ => ⟨Hd, es, eh, xc, _, R, xo, m, fun eh1 H1 x v s1 R1 r1 ⟨n, ex, hn, m1⟩ => by
    subst ex
    cases r1
    refine ⟨n, rfl, RgOk.of_le (Int.le_refl 0) (by omega) (by omega) (by omega), fun l hl => ?_⟩
    rw [rgV_nat]
    rw [rgE_nat] at m1
    exact k eh1 _ (.tup _) (.ref l) (s1.trans (.newF hl)) (R1.newF hl) ⟨l, _, rfl, .inl (.inl upd_same), .of_ints _⟩ m1⟩
/-! ### xs.count(text) -/
def oCountT : EV → EOL := fun x xs eh q => ∃ (ys : List Str) (b : Str), lstE eh x = some (ys.map .str) ∧ xs = [.str b] ∧ q (.int (ys.count b : Nat)) eh
def isStrOf (b : Str) : Value → Bool
  | .str z _ => z == b
  | _ => false
/-! ### dict(pairs): a dict that nobody writes -/
def pairE : EV → Option (Key × EV)
  | .tup [x, y] => (keyE x).map fun k => (k, y)
  | _ => none
def pairsE : List EV → Option (List (Key × EV))
  | [] => some []
  | x :: r => match pairE x, pairsE r with
    | some p, some ps => some (p :: ps)
    | _, _ => none
def mergeE : List (Key × EV) → List (Key × EV) → List (Key × EV)
  | acc, [] => acc
  | acc, (k, v) :: r => mergeE (putKE acc k v) r
def bDictP : EOL := fun xs eh q => ∃ x ys ps, xs = [x] ∧ lstE eh x = some ys ∧ pairsE ys = some ps ∧ ∀ p, eh p = none → q (.ref p) (eupd eh p (some (.dct (mergeE [] ps))))
theorem vals_strs_of : ∀ {ys : List Str} {us : List Value}, Vals (ys.map V.str) us → (∀ u ∈ us, ∃ z t, u = .str z t) ∧ ∀ b : Str, us.countP (isStrOf b) = ys.count b
  | [], _, .nil => ⟨fun _ h => (nomatch h), fun _ => rfl⟩
  | y :: ys, u :: us, .cons r t => by
    obtain ⟨k, rfl⟩ := r
    obtain ⟨h1, h2⟩ := vals_strs_of t
    refine ⟨fun u hu => ?_, fun b => ?_⟩
    · rcases List.mem_cons.mp hu with rfl | hu
      · exact ⟨y, k, rfl⟩
      · exact h1 u hu
    · rw [List.countP_cons, List.count_cons, h2 b]
      show _ + (if (y == b) = true then 1 else 0) = _
      rfl
theorem mt_count_t : MtR X "list.count" (UM X.K X.mg oCountT) := by
  intro pins s σ H v vs u us Q I r1 r2 h
  obtain ⟨Hd, eh, x, xs, q, R, rx, rxs, ⟨ys, b, hl, rfl, m⟩, k⟩ := h
  obtain ⟨w, rfl, rw'⟩ := one_of rxs
  cases rw'
  obtain ⟨a, ws, rfl, ha, rr⟩ := lst_of R rx hl
  have e := rr.strs
  subst e
  cases r1
  obtain ⟨c, rfl, rc⟩ := r2.one
  obtain ⟨tb, rfl⟩ := rc
  obtain ⟨its, rv, ⟨⟨cls, dd, data, sl⟩, n, ho, hc, hdn, hd⟩, hlen⟩ := I.list (.inl (.inl ha))
  simp only at hc hd
  subst hc hd
  obtain ⟨hs, hcnt⟩ := vals_strs_of rv
  refine call_meets PySem.F.slot_list_count ⟨_, ho, rfl⟩ PySem.F.entry_list_count (PySem.F.args_list_count_2 _ _)
    (SeqAt.list_countAt a its.toArray n dd sl (.str b tb) (isStrOf b)) ⟨ho, fun y hy => ?_, ?_⟩
  · obtain ⟨z, t, rfl⟩ := hs y (List.mem_toArray.mp (by exact hy))
    exact SeqAt.EqAt.str_str z t b tb
  · refine ⟨.int (ys.count b : Nat), H, I.tok _, ⟨s.toks, ?_⟩, k eh H (.int _) (.int _) .refl R rfl m⟩
    show Value.int (((its.toArray.toList.countP (isStrOf b) : Nat) : Int)) s.toks = _
    rw [hcnt b]
/-! ### dict(pairs) -/
theorem keyV_of {K : PySem.W.Frag} {mg : Str → Option Value} {Hd : Addr → Prop} {eh : Eh} {H : Hp} : ∀ {ys : List EV} {vs : List V} {ps : List (Key × EV)}, RpL K mg Hd eh H ys vs → pairsE ys = some ps →
    ∃ (as : List Addr) (us : List (Key × V)), vs = as.map V.ref ∧ Paired (fun p kv => SqT K H p [kV kv.1, kv.2]) as us ∧ RpK K mg Hd eh H ps us
  | [], _, _, h, e => by cases h; cases e; exact ⟨[], [], rfl, .nil, rfl⟩
  | x :: ys, _, ps, ⟨v, r, ev, hx, hr⟩, e => by
    subst ev
    unfold pairsE at e
    cases hp : pairE x with
    | none => rw [hp] at e; cases e
    | some kv =>
      cases hps : pairsE ys with
      | none => rw [hp, hps] at e; cases e
      | some ps' =>
        rw [hp, hps] at e
        cases e
        obtain ⟨as, us, e1, e2, e3⟩ := keyV_of hr hps
        unfold pairE at hp
        split at hp
        · rename_i y z
          rw [Option.map_eq_some_iff] at hp
          obtain ⟨key, hk, rfl⟩ := hp
          obtain ⟨a, ws, rfl, ht, rt⟩ := hx
          obtain ⟨w1, w2, rfl, ry, rz⟩ := two_of rt
          refine ⟨a :: as, (key, w2) :: us, by rw [e1]; rfl, .cons ?_ e2, ⟨w2, us, rfl, rz, e3⟩⟩
          have := keyE_of ry hk
          subst this
          exact ht
        · cases hp
theorem rpK_merge {K : PySem.W.Frag} {mg : Str → Option Value} {Hd : Addr → Prop} {eh : Eh} {H : Hp} : ∀ {ps : List (Key × EV)} {us acc' : List (Key × V)} {acc : List (Key × EV)}, RpK K mg Hd eh H ps us → RpK K mg Hd eh H acc acc' → RpK K mg Hd eh H (mergeE acc ps) (mergeK acc' us)
  | [], _, _, _, h, h' => by cases h; exact h'
  | (k, x) :: ps, _, _, _, ⟨v, r, e, hx, hr⟩, h' => by
    subst e
    exact (rpK_merge (ps := ps) hr (h'.put hx) :)
theorem cb_dictP (hc : X.calm = true) : CallR X (.type "dict") (UL X.K X.mg bDictP) := CallR.imp (call_dictP hc) fun vs H Q ⟨Hd, eh, xs, q, R, rx, ⟨x, ys, ps, ex, hy, hp, m⟩, k⟩ => by
  subst ex
  obtain ⟨v, rfl, rv⟩ := one_of rx
  obtain ⟨a, ws, rfl, ha, rr⟩ := lst_of R rv hy
  obtain ⟨as, us, rfl, pr, rk⟩ := keyV_of rr hp
  refine ⟨a, as, us, rfl, .inl (.inl ha), pr, fun p hpn => ?_⟩
  have st : Step eh H (eupd eh p (some (.dct (mergeE [] ps)))) (upd H p (.dK (mergeK [] us))) := .new hpn
  exact k _ _ (.ref p) (.ref p) st (R.new (eo := .dct (mergeE [] ps)) hpn ⟨_, upd_same, (rpK_merge rk (show RpK _ _ _ _ _ [] [] from rfl)).step st⟩) rfl (m p (R.fresh hpn))
/-! ### {e: f} -/
def mDisp1 (mk mv : ME) : ME := fun xc es eh q => ∀ p, eh p = none → mk xc es (eupd eh p (some (.dct []))) fun y eh1 => mv xc es eh1 fun z eh2 => ∃ k, eh2 p = some (.dct []) ∧ keyE y = some k ∧ q (.ref p) (eupd eh2 p (some (.dct [(k, z)])))
theorem re_disp1 {k v : Expr} {mk mv : ME} (hk : PE X k (U X.K X.mg E mk)) (hv : PE X v (U X.K X.mg E mv)) : PE X (.Dict [some k] [v] pos) (U X.K X.mg E (mDisp1 mk mv)) := by
  refine PE.imp (pe_disp (pps_cons hk hv pps_nil) rfl rfl (by simp) (by show 1 ≤ 15; omega)) fun σ H Q ⟨Hd, es, eh, xc, q, R, xo, m, kk⟩ p hp => ?_
  have R0 : Rh X.K X.mg Hd (eupd eh p (some (.dct []))) (upd H p (.dK [])) := R.obj.new (eo := .dct []) hp ⟨[], upd_same, rfl⟩
  have s0 : Step eh H (eupd eh p (some (.dct []))) (upd H p (.dK [])) := .new hp
  refine ⟨Hd, es, _, xc, _, R.step s0 R0, xo.step s0, m p (R.obj.fresh hp), fun eh1 H1 y u s1 R1 r1 m1 => ⟨Hd, es, eh1, xc, _, (R.step s0 R0).step s1 R1, (xo.step s0).step s1, m1, fun eh2 H2 z w s2 R2 r2 ⟨key, e1, e2, m2⟩ => ?_⟩⟩
  obtain ⟨us, h2, t2⟩ := R2.ob p _ e1
  cases t2
  refine ⟨h2, [(key, w)], by rw [show u = kV key from keyE_of r1 e2]; rfl, by show 1 ≤ 15; omega, ?_⟩
  have st : Step eh2 H2 (eupd eh2 p (some (.dct [(key, z)]))) (upd H2 p (.dK [(key, w)])) := .write R2 e1
  exact kk _ _ (.ref p) (.ref p) (s0.trans (s1.trans (s2.trans st))) (.write R2 e1 ⟨_, upd_same, ⟨w, [], rfl, r2.step st, rfl⟩⟩) rfl m2
/-! ### list(d.values()) -/
theorem vals_rel {kvs : List (Key × V)} {ws : List (Key × Value)} (kv : KV kvs ws) : ∀ {us : List Value}, us.length = ws.length → (∀ (i : Nat) u, us[i]? = some u → ∃ k, ws[i]? = some (k, u)) → Vals (kvs.map (·.2)) us := by
  induction kv with
  | nil =>
    intro us hl _
    cases us with
    | nil => exact .nil
    | cons => simp at hl
  | @cons a b as bs h t ih =>
    intro us hl f
    cases us with
    | nil => simp at hl
    | cons u us =>
      obtain ⟨k, e⟩ := f 0 u rfl
      cases e
      exact .cons h.2 (ih (by simpa using hl) fun i w z => f (i + 1) w (by simpa using z))
def mListVals (m : ME) : ME := fun xc es eh q => m xc es eh fun x eh1 => ∃ kvs, dctE eh1 x = some kvs ∧ q (.lst (kvs.map (·.2))) eh1
theorem rpL_vals {K : PySem.W.Frag} {mg : Str → Option Value} {Hd : Addr → Prop} {eh : Eh} {H : Hp} : ∀ {xs : List (Key × EV)} {us : List (Key × V)}, RpK K mg Hd eh H xs us → RpL K mg Hd eh H (xs.map (·.2)) (us.map (·.2))
  | [], _, h => by cases h; rfl
  | (_, _) :: _, _, ⟨_, _, e, h, t⟩ => by subst e; exact .cons h (rpL_vals t)
theorem re_listVals {apos cpos : Pos} (hc : X.calm = true) (he : PE X e (U X.K X.mg E ma)) (hg : Gl X "list") (hm : X.mg "list" = none) (hbase : attributeBase e "values" X.env (eval e X.env) = eval e X.env := by rfl) (hline : (apos.endLine == cpos.line) = true := by rfl)
    (hs : starEach [.Call (.Attribute e "values" apos) [] [] cpos] X.env = (false, eval (.Call (.Attribute e "values" apos) [] [] cpos) X.env) :: starEach [] X.env := by rfl) :
    PE X (.Call (.Name "list" p) [.Call (.Attribute e "values" apos) [] [] cpos] [] pos) (U X.K X.mg E (mListVals ma)) := by
  refine ⟨fun pins s σ H Q I ⟨Hd, es, eh, xc, q, R, xo, m, k⟩ => wpAny_Call_Name_kw (ld_blt I hg hm boot_list (PyProof.Rows.callWith_type1 ?_ hs rfl))⟩
  rw [hs]
  refine Calls.spliced_cons (wpAny_Call_method (T := "dict") (id := "dict.values") hbase rfl hline F.plainAttrs_dict F.slot_dict_values F.type_dict_values (thn (he.run pins s σ H (fun v H1 => ∃ eh1 x, Step eh H eh1 H1 ∧ Rh X.K X.mg Hd eh1 H1 ∧ Rp X.K X.mg Hd eh1 H1 x v ∧ ∃ kvs, dctE eh1 x = some kvs ∧ q (.lst (kvs.map (·.2))) eh1) I ⟨Hd, es, eh, xc, _, R, xo, m, fun eh1 H1 x v s1 R1 r1 m1 => ⟨eh1, x, s1, R1, r1, m1⟩⟩) fun u s1 ⟨v, H1, I1, rx, eh1, x, st, R1, r1, kvs, hx, m1⟩ => ?_))
  obtain ⟨d, us, rfl, rd, rk⟩ := dct_of R1 r1 hx
  obtain rfl : u = Value.ref d := rx
  obtain ⟨hz, hs0, ws, kv, hdo⟩ := rd.ok I1.hok
  have hlen : us.length = ws.length := Paired.length kv
  have I2 : Inv X pins σ H1 { s1 with heap := s1.heap.push { cls := .type "dict_values", data := .fields #[.ref d] } } := I1.kept (t' := s1.toks) fun b ob q => Heap.get?_push_of_some _ q
  refine ⟨hdo.typeIs, hdo.mapOf.noDict, method_meetsIn F.slot_dict_values F.entry_dict_values rfl (PySem.evalArgs_none ⟨rfl, hdo.typeIs, F.args_dict_values_1 _, _, meets_dict_values (mixKind X.prog X.w) d hs0, ⟨ws, hdo⟩, Calls.spliced_nil ?_⟩)⟩
  obtain ⟨n, at_⟩ := hdo.dictAt
  refine PySem.W.kdl_call (PySem.W.kdl_values (knd := mixKind X.prog X.w) (kvs := ws) (ep := n)) (I1.ok.hd hc) ⟨⟨_, Heap.get?_push_size _ rfl, rfl, rfl⟩, at_.push _⟩ (hlen ▸ hz) fun h1 t1 arr c1 kp1 got it1 => ?_
  have new : H1 (s1.heap.push { cls := .type "dict_values", data := .fields #[.ref d] }).objs.size = none := I2.hok.fresh (Nat.le_refl _)
  have vr : Vals (us.map (·.2)) arr.toList := vals_rel kv (by rw [Array.length_toList]; exact it1.1) fun i u h => it1.2 i u (by simpa using h)
  refine ⟨.ref _, _, I2.laid (o := .lst (us.map (·.2))) kp1 (Nat.le_refl _) ⟨by simpa using hz, arr.toList, c1, vr, by simpa using got⟩, rfl, ?_⟩
  exact k eh1 _ (.lst (kvs.map (·.2))) (.ref _) (st.trans (.newF new)) (R1.newF new) ⟨_, us.map (·.2), rfl, upd_same, ⟨R1.fresh new, R1.notHid new⟩, (rpL_vals rk).step (.newF new)⟩ m1
end
end VM

/-! VMX9: list(zip(texts, xs)); t[::-1] as a rule. -/
namespace VM
open PySem PySem.Spec PyProof.Rows L2
theorem zl_len : typeLookup (.type "zip") "__len__" = pure none := by rw [typeLookup_type, builtinLookup_eq_fast]; kernel_rfl
theorem zl_hint : typeLookup (.type "zip") "__length_hint__" = pure none := by rw [typeLookup_type, builtinLookup_eq_fast]; kernel_rfl
/-- where the walk over a zip stands; the tuples given out are all kept -/
def ZlSt (z TI TO i1 i2 l1 l2 S : Addr) (xs ys : Array Value) (h : Heap) (i : Nat) : Prop :=
  IsPair h TI (.ref i1) (.ref i2) ∧ h.IsListIter i1 l1 i ∧ h.IsListIter i2 l2 i ∧ h.IsList l1 xs ∧ h.IsList l2 ys ∧
    ((IsZip h z TI TO .none ∧ ∃ a b, IsPair h TO a b) ∨ ∃ T f oT, PySem.IsZipHeld h z TI TO T f ∧ h.get? T = some oT ∧ T ≠ z ∧ T ≠ i1 ∧ T ≠ i2 ∧ T ≠ S)
section
variable {prog : Program} {w : World} {A : Around} {E : Value → Shared → Prop} {s : Shared} {z TI TO i1 i2 l1 l2 S : Addr} {xs ys : Array Value}
structure ZlAp (z TI TO i1 i2 l1 l2 S : Addr) : Prop where
  d : ZipApart z TI TO i1 i2 l1 l2
  sz : S ≠ z
  sTI : S ≠ TI
  sTO : S ≠ TO
  s1 : S ≠ i1
  s2 : S ≠ i2
  sl1 : S ≠ l1
  sl2 : S ≠ l2
theorem ZlSt.keep (ap : ZlAp z TI TO i1 i2 l1 l2 S) {h h' : Heap} {i : Nat} (st : ZlSt z TI TO i1 i2 l1 l2 S xs ys h i) (hk : ∀ b o, b ≠ S → h.get? b = some o → h'.get? b = some o) : ZlSt z TI TO i1 i2 l1 l2 S xs ys h' i := by
  obtain ⟨a1, a2, a3, a4, a5, a6⟩ := st
  refine ⟨hk _ _ (Ne.symm ap.sTI) a1, a2.at fun o e => hk _ o (Ne.symm ap.s1) e, a3.at fun o e => hk _ o (Ne.symm ap.s2) e, a4.at fun o e => hk _ o (Ne.symm ap.sl1) e, a5.at fun o e => hk _ o (Ne.symm ap.sl2) e, ?_⟩
  rcases a6 with ⟨b1, b2, b3, b4⟩ | ⟨T, f, oT, b1, b2, r1, r2, r3, r4⟩
  · exact .inl ⟨hk _ _ (Ne.symm ap.sz) b1, b2, b3, hk _ _ (Ne.symm ap.sTO) b4⟩
  · exact .inr ⟨T, f, oT, hk _ _ (Ne.symm ap.sz) b1, hk _ _ r4 b2, r1, r2, r3, r4⟩
theorem zl_item (ap : ZlAp z TI TO i1 i2 l1 l2 S) {i : Nat} {x y : Value} {Q : Option Value → Shared → Prop} (st : ZlSt z TI TO i1 i2 l1 l2 S xs ys s.heap i) (hS : S < s.heap.objs.size) (ex : xs[i]? = some x) (ey : ys[i]? = some y)
    (q : ∀ h', IsPair h' s.heap.objs.size x y → ZlSt z TI TO i1 i2 l1 l2 S xs ys h' (i + 1) → (∀ c o, c ≠ z → c ≠ TO → c ≠ i1 → c ≠ i2 → s.heap.get? c = some o → h'.get? c = some o) → Q (some (.ref s.heap.objs.size)) { s with heap := h' }) : wpAny (model prog w) A (pyNext (.ref z)) Q E s := by
  obtain ⟨hTI, h1, h2, hl1, hl2, hz⟩ := st
  have D := ap.d
  have up : ∀ {c o}, s.heap.get? c = some o → s.heap.objs.size ≠ c := fun e => Nat.ne_of_gt (Heap.lt_size e)
  have m1 : s.heap.objs.size ≠ i1 := let ⟨_, e, _⟩ := h1; up e
  have m2 : s.heap.objs.size ≠ i2 := let ⟨_, e, _⟩ := h2; up e
  rcases hz with ⟨hz, a, b, hTO⟩ | ⟨T, f, oT, hz, hT, r1, r2, r3, r4⟩
  · refine wpAny_pyNext_zip_item D hz hTI hTO h1 h2 hl1 hl2 ex ey fun h' a1 a2 a3 a4 a5 a6 hk => q h' a5 ⟨hk _ _ D.TIz D.TITO D.TIi1 D.TIi2 hTI, a3, a4, ?_, ?_, .inr ⟨_, false, _, a1, a5, up hz, m1, m2, Nat.ne_of_gt hS⟩⟩ hk
    · exact hl1.at fun o e => hk _ o D.l1z D.l1TO D.l1i1 D.l1i2 e
    · exact hl2.at fun o e => hk _ o D.l2z D.l2TO D.l2i1 D.l2i2 e
  · refine PySem.wpAny_pyNext_zip_item_held D hz hT hTI h1 h2 hl1 hl2 ex ey fun h' a1 a3 a4 a5 a6 hk => q h' a5 ⟨hk _ _ D.TIz D.TIi1 D.TIi2 hTI, a3, a4, ?_, ?_, .inr ⟨T, true, oT, a1, hk _ _ r1 r2 r3 hT, r1, r2, r3, r4⟩⟩ fun c o c1 _ c3 c4 e => hk c o c1 c3 c4 e
    · exact hl1.at fun o e => hk _ o D.l1z D.l1i1 D.l1i2 e
    · exact hl2.at fun o e => hk _ o D.l2z D.l2i1 D.l2i2 e
theorem zl_done (hh : A.handled = none) (ap : ZlAp z TI TO i1 i2 l1 l2 S) {i : Nat} {Q : Option Value → Shared → Prop} (st : ZlSt z TI TO i1 i2 l1 l2 S xs ys s.heap i) (he : xs[i]? = none ∨ ys[i]? = none)
    (q : ∀ h', (∀ c o, c ≠ z → c ≠ TO → c ≠ i1 → c ≠ i2 → s.heap.get? c = some o → h'.get? c = some o) → Q none { s with heap := h' }) : wpAny (model prog w) A (pyNext (.ref z)) Q E s := by
  obtain ⟨hTI, h1, h2, hl1, hl2, hz⟩ := st
  rcases hz with ⟨hz, a, b, hTO⟩ | ⟨T, f, oT, hz, hT, _⟩
  · exact wpAny_pyNext_zip_end hh ap.d hz hTI hTO h1 h2 hl1 hl2 he q
  · exact PySem.wpAny_pyNext_zip_end_held hh ap.d hz hT hTI h1 h2 hl1 hl2 he fun h' hk => q h' fun c o c1 _ c3 c4 e => hk c o c1 c3 c4 e
/-- the tuples that the list holds -/
structure ZlG (xs ys : Array Value) (lo : Addr) (h : Heap) (as : List Addr) : Prop where
  rise : as.Pairwise (· < ·)
  above : ∀ a ∈ as, lo < a
  at_ : ∀ (j : Nat) (a : Addr), as[j]? = some a → ∃ x y, xs[j]? = some x ∧ ys[j]? = some y ∧ IsPair h a x y
theorem ZlG.keep {lo : Addr} {h h' : Heap} {as : List Addr} (g : ZlG xs ys lo h as) (hk : ∀ a ∈ as, ∀ o, h.get? a = some o → h'.get? a = some o) : ZlG xs ys lo h' as :=
  ⟨g.rise, g.above, fun j a hj => let ⟨x, y, e1, e2, e3⟩ := g.at_ j a hj; ⟨x, y, e1, e2, hk a (List.mem_of_getElem? hj) _ e3⟩⟩
theorem ZlG.lt {lo : Addr} {h : Heap} {as : List Addr} (g : ZlG xs ys lo h as) : ∀ a ∈ as, a < h.objs.size := fun a ha => by
  obtain ⟨j, hj⟩ := List.mem_iff_getElem?.mp ha
  obtain ⟨_, _, _, _, e⟩ := g.at_ j a hj
  exact Heap.lt_size e
theorem ZlG.snoc {lo : Addr} {h : Heap} {as : List Addr} {a : Addr} {x y : Value} (g : ZlG xs ys lo h as) (hlt : ∀ b ∈ as, b < a) (hlo : lo < a) (hx : xs[as.length]? = some x) (hy : ys[as.length]? = some y) (e : IsPair h a x y) : ZlG xs ys lo h (as ++ [a]) := by
  refine ⟨List.pairwise_append.mpr ⟨g.rise, List.pairwise_singleton _ _, fun b hb c hc => by rw [List.mem_singleton.mp hc]; exact hlt b hb⟩, fun b hb => ?_, fun j b hj => ?_⟩
  · rcases List.mem_append.mp hb with hb | hb
    · exact g.above b hb
    · rw [List.mem_singleton.mp hb]; exact hlo
  · rcases Nat.lt_trichotomy j as.length with c | c | c
    · rw [List.getElem?_append_left c] at hj
      exact g.at_ j b hj
    · subst c
      rw [List.getElem?_append_right (Nat.le_refl _), Nat.sub_self] at hj
      cases hj
      exact ⟨x, y, hx, hy, e⟩
    · rw [List.getElem?_eq_none (by rw [List.length_append, List.length_singleton]; omega)] at hj
      cases hj
theorem zl_loop {R : Result → Shared → Prop} {h₁ : Heap} (hh : A.handled = none) (ap : ZlAp z TI TO i1 i2 l1 l2 S) (hzS : z < S ∧ TO < S ∧ i1 < S ∧ i2 < S) (hn : xs.size = ys.size) (hs : xs.size ≤ sizeLine) (res : Value)
    (fin : ∀ h' tk acc c as, (∀ b o, b ≠ S → b ≠ z → b ≠ TO → b ≠ i1 → b ≠ i2 → h₁.get? b = some o → h'.get? b = some o) → h'.get? S = some { cls := .type "list", dict := none, data := .seq acc c, slots := #[] } → as.length = xs.size → ZlG xs ys S h' as → acc.toList = as.map Value.ref → R (.ok (.ret res)) { s with heap := h', toks := tk }) :
    ∀ (k i : Nat) (h : Heap) (tk c : Nat) (acc : Array Value) (as : List Addr), xs.size - i = k → i ≤ xs.size → ZlSt z TI TO i1 i2 l1 l2 S xs ys h i → (∀ b o, b ≠ S → b ≠ z → b ≠ TO → b ≠ i1 → b ≠ i2 → h₁.get? b = some o → h.get? b = some o) →
      h.get? S = some { cls := .type "list", dict := none, data := .seq acc c, slots := #[] } → acc.toList = as.map Value.ref → as.length = i → ZlG xs ys S h as → codeAny (model prog w) A (.builtin "list.extend.loop" ⟨[.ref S, .ref z, res], []⟩) R { s with heap := h, toks := tk } := by
  have ne : ∀ {b : Addr}, S < b → b ≠ z ∧ b ≠ TO ∧ b ≠ i1 ∧ b ≠ i2 := fun {b} hb => ⟨Nat.ne_of_gt (Nat.lt_trans hzS.1 hb), Nat.ne_of_gt (Nat.lt_trans hzS.2.1 hb), Nat.ne_of_gt (Nat.lt_trans hzS.2.2.1 hb), Nat.ne_of_gt (Nat.lt_trans hzS.2.2.2 hb)⟩
  have Sne : S ≠ z ∧ S ≠ TO ∧ S ≠ i1 ∧ S ≠ i2 := ⟨ap.sz, ap.sTO, ap.s1, ap.s2⟩
  intro k
  induction k with
  | zero =>
    intro i h tk c acc as hk hi st kp eS ha hl g
    have hend : xs[i]? = none := Array.getElem?_eq_none (by omega)
    refine codeAny_builtin PySem.F.entry_extend_loop (by
      rw [Around.under_plainId PySem.F.plain_extend_loop _]
      refine wpAny_bind (zl_done (s := { s with heap := h, toks := tk }) (A := A.in1) hh ap st (.inl hend) fun h' hk' => wpAny_pure (fin h' tk acc c as (fun b o c1 c2 c3 c4 c5 e => hk' b o c2 c3 c4 c5 (kp b o c1 c2 c3 c4 c5 e)) (hk' S _ Sne.1 Sne.2.1 Sne.2.2.1 Sne.2.2.2 eS) (by omega) (g.keep fun a ham o e => ?_) ha))
      obtain ⟨n1, n2, n3, n4⟩ := ne (g.above a ham)
      exact hk' a o n1 n2 n3 n4 e)
  | succ k ih =>
    intro i h tk c acc as hk hi st kp eS ha hl g
    have hlt : i < xs.size := by omega
    have ex := Array.getElem?_eq_getElem hlt
    have ey := Array.getElem?_eq_getElem (xs := ys) (i := i) (by omega)
    have asz : acc.size = i := by rw [← Array.length_toList, ha, List.length_map, hl]
    have hSl := Heap.lt_size eS
    refine codeAny_builtin PySem.F.entry_extend_loop (by
      rw [Around.under_plainId PySem.F.plain_extend_loop _]
      refine wpAny_bind (zl_item (s := { s with heap := h, toks := tk }) ap st hSl ex ey fun h' ht st' hk' => ?_)
      have eS' := hk' S _ Sne.1 Sne.2.1 Sne.2.2.1 Sne.2.2.2 eS
      have up : ∀ b o, b ≠ S → h'.get? b = some o → (h'.update S (Obj.mapSeq (·.push (Value.ref h.objs.size)))).get? b = some o := fun b o hb e => (Heap.get?_update_other _ _ (Ne.symm hb)).trans e
      refine wpAny_bind (wpAny_updateSeq eS' rfl (wpAny_pure ⟨plainId_quiet PySem.F.plain_extend_loop _, ih (i + 1) _ tk _ (acc.push (Value.ref h.objs.size)) (as ++ [h.objs.size]) (by omega) hlt (st'.keep ap up) (fun b o c1 c2 c3 c4 c5 e => up b o c1 (hk' b o c2 c3 c4 c5 (kp b o c1 c2 c3 c4 c5 e))) (Heap.get?_update_self _ eS' rfl) (by rw [Array.toList_push, ha, List.map_append]; rfl) (by rw [List.length_append, hl]; rfl) ?_⟩) (by rw [asz]; omega) (by show (acc.push (Value.ref h.objs.size)).size ≤ sizeLine + 1; rw [Array.size_push, asz]; omega))
      have g2 : ZlG xs ys S (h'.update S (Obj.mapSeq (·.push (Value.ref h.objs.size)))) as := g.keep fun a ham o e => by
        obtain ⟨n1, n2, n3, n4⟩ := ne (g.above a ham)
        exact up a o (Nat.ne_of_gt (g.above a ham)) (hk' a o n1 n2 n3 n4 e)
      exact g2.snoc (fun b hb => g.lt b hb) hSl (by rw [hl]; exact ex) (by rw [hl]; exact ey) (up _ _ (Nat.ne_of_gt hSl) ht))
theorem zl_nohint {Q : Bool → Shared → Prop} (hT : s.TypeIs (.ref z) "zip") (h : Q true s) : wpAny (model prog w) A (Builtin.List.listLengthHint (.ref z)) Q E s := by
  unfold Builtin.List.listLengthHint
  refine wpAny_bind (wpAny_specialOf hT zl_len ?_)
  show wpAny _ A (specialOf (Value.ref z) (Str.ofString "__length_hint__") >>= _) _ _ _
  exact wpAny_bind (wpAny_specialOf hT zl_hint (wpAny_pure h))
/-- list(z) of a new zip -/
theorem zl_call {Q : Value → Shared → Prop} (hh : A.handled = none) (D : ZipApart z TI TO i1 i2 l1 l2) (hn : xs.size = ys.size) (hs : xs.size ≤ sizeLine) (hz : IsZip s.heap z TI TO .none) (hTI : IsPair s.heap TI (.ref i1) (.ref i2)) {a b : Value} (hTO : IsPair s.heap TO a b) (h1 : s.heap.IsListIter i1 l1 0) (h2 : s.heap.IsListIter i2 l2 0) (hl1 : s.heap.IsList l1 xs) (hl2 : s.heap.IsList l2 ys)
    (q : ∀ h' tk acc c as, (∀ b o, b ≠ z → b ≠ TO → b ≠ i1 → b ≠ i2 → s.heap.get? b = some o → h'.get? b = some o) → h'.get? s.heap.objs.size = some { cls := .type "list", dict := none, data := .seq acc c, slots := #[] } → as.length = xs.size → ZlG xs ys s.heap.objs.size h' as → acc.toList = as.map Value.ref → Q (.ref s.heap.objs.size) { s with heap := h', toks := tk }) :
    wpAny (model prog w) A (call (.type "list") [.ref z]) Q E s := by
  have lt : ∀ {c o}, s.heap.get? c = some o → c < s.heap.objs.size := fun e => Heap.lt_size e
  have li1 : i1 < s.heap.objs.size := let ⟨_, e, _⟩ := h1; lt e
  have li2 : i2 < s.heap.objs.size := let ⟨_, e, _⟩ := h2; lt e
  have ll1 : l1 < s.heap.objs.size := let ⟨_, e, _⟩ := hl1; lt e
  have ll2 : l2 < s.heap.objs.size := let ⟨_, e, _⟩ := hl2; lt e
  have ap : ZlAp z TI TO i1 i2 l1 l2 s.heap.objs.size := ⟨D, Nat.ne_of_gt (lt hz), Nat.ne_of_gt (lt hTI), Nat.ne_of_gt (lt hTO), Nat.ne_of_gt li1, Nat.ne_of_gt li2, Nat.ne_of_gt ll1, Nat.ne_of_gt ll2⟩
  have st0 : ZlSt z TI TO i1 i2 l1 l2 s.heap.objs.size xs ys s.heap 0 := ⟨hTI, h1, h2, hl1, hl2, .inl ⟨hz, a, b, hTO⟩⟩
  generalize hSS : s.heap.objs.size = S at ap st0 q
  have key : ∀ (h : Heap) (c₁ tk : Nat), (∀ b o, b ≠ S → s.heap.get? b = some o → h.get? b = some o) → h.get? S = some { cls := .type "list", data := .seq #[] c₁ } →
      codeAny (model prog w) A.in1 (.builtin "list.extend.loop" ⟨[.ref S, .ref z, .none], []⟩) (wants (fun r s₂ => r = Value.none ∧ Q (.ref S) s₂) E) { s with heap := h, toks := tk } := fun h c₁ tk hk eS =>
    zl_loop (h₁ := s.heap) (A := A.in1) hh ap (by rw [← hSS]; exact ⟨lt hz, lt hTO, li1, li2⟩) hn hs .none (fun h' tk' acc c as kp e1 e2 e3 e4 => ⟨rfl, q h' tk' acc c as (fun b o c2 c3 c4 c5 e => kp b o (fun zz => by rw [zz, ← hSS] at e; exact Nat.lt_irrefl _ (lt e)) c2 c3 c4 c5 e) e1 e2 e3 e4⟩)
      xs.size 0 h tk c₁ #[] [] (Nat.sub_zero _) (Nat.zero_le _) (st0.keep ap hk) (fun b o c1 _ _ _ _ e => hk b o c1 e) eS rfl rfl ⟨List.Pairwise.nil, (fun _ ha => nomatch ha), (fun j a hj => by simp at hj)⟩
  refine callType_codes (Q₁ := fun obj s₁ => obj = .ref S ∧ s₁ = { s with heap := s.heap.push { cls := .type "list", data := .seq #[] } }) PySem.F.called_list (PySem.F.typeCall_list_1 _) PySem.F.entry_list_init (code_list_new _ ⟨by rw [hSS], rfl⟩) fun obj s₁ ⟨eo, es⟩ => ?_
  subst eo; subst es
  have e0 : (s.heap.push { cls := .type "list", data := .seq #[] }).get? S = some { cls := .type "list", data := .seq #[] } := by rw [← hSS]; exact Heap.get?_push_size _ rfl
  have up : ∀ (h : Heap) (f : Obj → Obj), (∀ b o, b ≠ S → s.heap.get? b = some o → h.get? b = some o) → ∀ b o, b ≠ S → s.heap.get? b = some o → (h.update S f).get? b = some o := fun h f hk b o hb e => (Heap.get?_update_other _ _ (Ne.symm hb)).trans (hk b o hb e)
  have k0 : ∀ b o, b ≠ S → s.heap.get? b = some o → (s.heap.push { cls := .type "list", data := .seq #[] }).get? b = some o := fun b o _ e => Heap.get?_push_of_some _ e
  have k1 := up _ (Obj.mapSeq (fun _ => (#[] : Array Value))) k0
  have e1 := Heap.get?_update_self (Obj.mapSeq (fun _ => (#[] : Array Value))) e0 rfl
  have tz : ∀ h : Heap, (∀ b o, b ≠ S → s.heap.get? b = some o → h.get? b = some o) → ∀ tk, ({ s with heap := h, toks := tk } : Shared).TypeIs (.ref z) "zip" := fun h hk tk => ⟨_, hk _ _ (Ne.symm ap.sz) hz, rfl⟩
  refine ⟨⟨_, e0, rfl⟩, PySem.F.args_list_init_2 _ _, ?_⟩
  show wpAny _ _ (do let old ← Builtin.List.listItems (.ref S); Builtin.List.listUpdate (.ref S) (fun _ => #[]); letGo old.toList.reverse; Builtin.List.listExtendWith (.ref S) (.ref z) .none) _ _ _
  refine wpAny_bind (by unfold Builtin.List.listItems; refine wpAny_bind (wpAny_seqItems e0 rfl (wpAny_pure (wpAny_bind (wpAny_updateSeq e0 rfl (wpAny_bind (wpAny_letGo ?_))))))
                        unfold Builtin.List.listExtendWith
                        refine wpAny_bind (wpAny_typeOf (T := "zip") (tz _ k1 s.toks) ?_)
                        have n1 : Builtin.List.listSameRef (.ref S) (.ref z) = false := by simp [Builtin.List.listSameRef, ap.sz]
                        simp only [n1, show (Value.type "zip" == Value.type "list") = false by decide, show (Value.type "zip" == Value.type "tuple") = false by decide, Bool.or_false, Bool.false_eq_true, if_false]
                        refine wpAny_bind (wpAny_pyIter_zip (k1 _ _ (Ne.symm ap.sz) hz) (wpAny_bind (wpAny_holding (zl_nohint (tz _ k1 s.toks) ?_))))
                        refine wpAny_ite_split (fun _ => ?_) (fun _ => wpAny_pure ⟨plainId_quiet PySem.F.plain_extend_loop _, key _ _ _ k1 e1⟩)
                        refine wpAny_bind (wpAny_rule (wpAny_bind ?_))
                        show wpAny _ _ (updateSeq S (·.push .none) >>= fun _ => updateSeq S (·.pop)) _ _ _
                        have e2 := Heap.get?_update_self (Obj.mapSeq (·.push Value.none)) e1 rfl
                        refine wpAny_bind (wpAny_updateSeq e1 rfl (wpAny_updateSeq (hz := by seq_fits) e2 rfl (wpAny_pure ⟨plainId_quiet PySem.F.plain_extend_loop _, key _ _ _ (up _ _ (up _ _ k1)) (Heap.get?_update_self (Obj.mapSeq (·.pop)) e2 rfl)⟩))))
end
section
variable {X : Cx} {pins : List (Addr × Obj)} {σ : L2.St} {H : Hp} {s : Shared}
/-- many new objects at once -/
theorem laid_all {H' : Hp} {h' : Heap} {tk : Nat} (I : Inv X pins σ H s) (hk : ∀ b o, s.heap.get? b = some o → h'.get? b = some o) (ext : ∀ b u, H b = some u → H' b = some u) (fresh : ∀ b, H b = none → H' b ≠ none → s.heap.objs.size ≤ b)
    (new : ∀ b u, H b = none → H' b = some u → ObjOk X.prog X.w H' h' b u) : Inv X pins σ H' { s with heap := h', toks := tk } := by
  refine I.un ⟨fun b o q _ _ _ => hk b o q, fun b o q _ _ _ => ⟨o.slots, hk b o q⟩, fun b o q n _ => ?_, fun b o q _ => ⟨o, hk b o q⟩, fun b xs q => ext b _ q, fun b o u q => ext b _ q, fun b ps q => ⟨#[], by rw [ext b _ q]; simp⟩⟩ fun b u q => ?_
  · cases e : H' b with
    | none => rfl
    | some u => exact absurd (fresh b n (by rw [e]; simp)) (Nat.not_le.mpr (Heap.lt_size q))
  · cases e : H b with
    | none => exact new b u e q
    | some u' =>
      have := ext b u' e
      rw [q] at this
      cases this
      exact (I.hok b u e).stay (fun d v _ y => hk d v y) (fun d y => ext d _ y) fun d xs y => ext d _ y
theorem zip_kv : ∀ {us : List Str} {vs : List V} {its its2 : List Value}, Vals (us.map V.str) its → Vals vs its2 → us.length = vs.length →
    KV ((us.zip vs).map fun p => ((.inr p.1 : Key), p.2)) ((us.zip its2).map fun p => ((.inr p.1 : Key), p.2))
  | [], _, _, _, _, _, _ => .nil
  | u :: us, [], _, _, _, _, h => by simp at h
  | u :: us, v :: vs, _ :: _, _ :: _, .cons r t, .cons r' t', h => .cons ⟨rfl, r'⟩ (zip_kv t t' (by simpa using h))
theorem zl_laid {h' : Heap} {tk c : Nat} {acc : Array Value} {S : Addr} {as : List Addr} {us : List Str} {vs : List V} {its its2 : List Value} (I : Inv X pins σ H s) (hk : ∀ b o, s.heap.get? b = some o → h'.get? b = some o) (hS : s.heap.objs.size ≤ S) (rv : Vals (us.map V.str) its) (rv2 : Vals vs its2) (hl : us.length = vs.length) (hz : us.length ≤ sizeLine)
    (eS : h'.get? S = some { cls := .type "list", dict := none, data := .seq acc c, slots := #[] }) (el : as.length = its.toArray.size) (g : ZlG its.toArray its2.toArray S h' as) (ea : acc.toList = as.map Value.ref) :
    ∃ H' : Hp, (∀ b o, H b = some o → H' b = some o) ∧ (∀ b, H b = none → H' b ≠ none → s.heap.objs.size ≤ b) ∧ H' S = some (.lst (as.map V.ref)) ∧ Paired (fun (t : Addr) (p : Str × V) => H' t = some (.tup [.str p.1, p.2])) as (us.zip vs) ∧ Inv X pins σ H' { s with heap := h', toks := tk } := by
  have e1 : its.length = us.length := by have := rv.length; rw [List.length_map] at this; exact this.symm
  have e2 : its2.length = vs.length := rv2.length.symm
  have el2 : as.length = us.length := by rw [el, List.size_toArray, e1]
  have hSn : S ∉ as := fun z => Nat.lt_irrefl _ (g.above _ z)
  have nd : as.Nodup := List.Pairwise.imp (fun {a b} (h : a < b) => Nat.ne_of_lt h) g.rise
  have nS : H S = none := I.hok.fresh hS
  have nA : ∀ t ∈ as, H t = none := fun t ht => I.hok.fresh (Nat.le_trans hS (Nat.le_of_lt (g.above t ht)))
  generalize hK : ((us.zip vs).map fun p => ((.inr p.1 : Key), p.2)) = kvs
  have lk : as.length = kvs.length := by rw [← hK, List.length_map, List.length_zip]; omega
  have atP := LiI.putT_at as kvs (upd H S (.lst (as.map V.ref))) lk nd
  have off : ∀ b, b ∉ as → b ≠ S → LiI.putT (upd H S (.lst (as.map V.ref))) as kvs b = H b := fun b c1 c2 => by rw [LiI.putT_off as kvs _ c1, upd_ne c2]
  have atS : LiI.putT (upd H S (.lst (as.map V.ref))) as kvs S = some (.lst (as.map V.ref)) := by rw [LiI.putT_off as kvs _ hSn, upd_same]
  have ext : ∀ b u, H b = some u → LiI.putT (upd H S (.lst (as.map V.ref))) as kvs b = some u := fun b u e => by
    rw [off b (fun z => by rw [nA b z] at e; cases e) (fun z => by rw [z, nS] at e; cases e)]; exact e
  refine ⟨_, ext, fun b n h => ?_, atS, ?_, laid_all I hk ext (fun b n h => ?_) fun b u n q => ?_⟩
  · by_cases c1 : b ∈ as
    · exact Nat.le_trans hS (Nat.le_of_lt (g.above b c1))
    · by_cases c2 : b = S
      · rw [c2]; exact hS
      · rw [off b c1 c2] at h; exact absurd n h
  · have atQ : Paired (fun (t : Addr) (p : Key × V) => LiI.putT (upd H S (.lst (as.map V.ref))) as kvs t = some (.tup [kV p.1, p.2])) as ((us.zip vs).map fun p => ((.inr p.1 : Key), p.2)) := by rw [hK]; exact atP
    have : ∀ {as : List Addr} {l : List (Str × V)} {F : Addr → Key × V → Prop}, Paired F as (l.map fun p => ((.inr p.1 : Key), p.2)) → Paired (fun t p => F t (.inr p.1, p.2)) as l := by
      intro as l
      induction l generalizing as with
      | nil => intro F h; cases h; exact .nil
      | cons p l ih => intro F h; cases h with | cons a b => exact .cons a (ih b)
    exact this atQ
  · by_cases c1 : b ∈ as
    · exact Nat.le_trans hS (Nat.le_of_lt (g.above b c1))
    · by_cases c2 : b = S
      · rw [c2]; exact hS
      · rw [off b c1 c2] at h; exact absurd n h
  · by_cases c1 : b ∈ as
    · obtain ⟨j, p, j1, j2, j3⟩ := LiI.paired_ix atP c1
      rw [j3] at q
      cases q
      obtain ⟨x, y, g1, g2, g3⟩ := g.at_ j b j1
      have kv := zip_kv rv rv2 hl
      rw [hK] at kv
      obtain ⟨w, f1, f2, f3⟩ := LiI.paired_get kv j2
      have g1' : its[j]? = some x := by simpa using g1
      have g2' : its2[j]? = some y := by simpa using g2
      obtain ⟨j4, j5⟩ := List.getElem?_eq_some_iff.mp j1
      have hju : j < us.length := by omega
      have hx : RelV (.str us[j]) x := by
        obtain ⟨u', hu', hr⟩ := LiI.paired_get rv (i := j) (x := V.str us[j]) (by rw [List.getElem?_map, List.getElem?_eq_getElem hju]; rfl)
        rw [g1'] at hu'; cases hu'; exact hr
      have hw : w = (.inr us[j], y) := by
        rw [List.getElem?_map, List.getElem?_zip_eq_some (z := (us[j], y)) |>.mpr ⟨List.getElem?_eq_getElem hju, g2'⟩] at f1
        cases f1; rfl
      rw [hw] at f2 f3
      refine ⟨by show 2 ≤ sizeLine; decide, [x, y], .cons (by rw [f2]; exact hx) (.cons f3 .nil), ⟨_, g3, rfl, _, rfl⟩⟩
    · by_cases c2 : b = S
      · subst c2
        rw [atS] at q
        cases q
        refine ⟨by rw [List.length_map]; omega, acc.toList, c, by rw [ea]; exact LiI.vals_refs as, by rw [Array.toArray_toList]; exact eS⟩
      · rw [off b c1 c2] at q; rw [n] at q; cases q
end
section
variable {X : Cx} {E : XK} {e e2 : Expr} {ma : ME} {ta : MA} {p p2 pos pos2 : Pos}
def mListZip (t : MA) : ME := fun xc es eh q => t xc es eh fun xs eh1 => ∃ (x y : EV) (us : List Str) (ys : List EV), xs = [x, y] ∧ lstE eh1 x = some (us.map .str) ∧ lstE eh1 y = some ys ∧ us.length = ys.length ∧ q (.lst ((us.zip ys).map fun p => .tup [.str p.1, p.2])) eh1
theorem rpL_zip {K : PySem.W.Frag} {mg : Str → Option Value} {Hd : Addr → Prop} {eh : Eh} {H : Hp} : ∀ {as : List Addr} {us : List Str} {ys : List EV} {vs : List V}, RpL K mg Hd eh H ys vs → us.length = ys.length → Paired (fun (t : Addr) (p : Str × V) => H t = some (.tup [.str p.1, p.2])) as (us.zip vs) →
    RpL K mg Hd eh H ((us.zip ys).map fun p => .tup [.str p.1, p.2]) (as.map V.ref)
  | as, [], ys, vs, r, hl, h => by
    cases h
    exact rfl
  | as, u :: us, [], vs, r, hl, h => by simp at hl
  | as, u :: us, y :: ys, vs, ⟨v, r, ev, hv, hr⟩, hl, h => by
    subst ev
    cases h with
    | cons a b => exact .cons ⟨_, _, rfl, .inl (.inl a), .cons rfl (.cons hv rfl)⟩ (rpL_zip hr (by simpa using hl) b)
theorem re_listZip (hc : X.calm = true) (hg : Gl X "list") (hm : X.mg "list" = none) (hg2 : Gl X "zip") (hm2 : X.mg "zip" = none) (ha : PA X [e, e2] (UA X.K X.mg E ta)) (na : starEach [e, e2] X.env = (false, eval e X.env) :: starEach [e2] X.env := by rfl) (np : (backTo pos2 (starEach [e2] X.env)).any (·.1) = false := by rfl)
    (hs : starEach [.Call (.Name "zip" p2) [e, e2] [] pos2] X.env = (false, eval (.Call (.Name "zip" p2) [e, e2] [] pos2) X.env) :: starEach [] X.env := by rfl) :
    PE X (.Call (.Name "list" p) [.Call (.Name "zip" p2) [e, e2] [] pos2] [] pos) (U X.K X.mg E (mListZip ta)) := by
  refine ⟨fun pins s σ H Q I ⟨Hd, es, eh, xc, q, R, xo, m, k⟩ => wpAny_Call_Name_kw (ld_blt I hg hm boot_list (PyProof.Rows.callWith_type1 ?_ hs rfl))⟩
  rw [hs]
  refine Calls.spliced_cons (Call_ (ld_blt I hg2 hm2 PyProof.Rows.boot_zip (PyProof.Rows.callWith_type1 (thn (ha.run pos2 pins s σ H (fun vs H1 => ∃ eh1 xs, Step eh H eh1 H1 ∧ Rh X.K X.mg Hd eh1 H1 ∧ RpL X.K X.mg Hd eh1 H1 xs vs ∧ ∃ (x y : EV) (us : List Str) (ys : List EV), xs = [x, y] ∧ lstE eh1 x = some (us.map .str) ∧ lstE eh1 y = some ys ∧ us.length = ys.length ∧ q (.lst ((us.zip ys).map fun p => .tup [.str p.1, p.2])) eh1) I
    ⟨Hd, es, eh, xc, _, R, xo, m, fun eh1 H1 xs vs s1 R1 r1 m1 => ⟨eh1, xs, s1, R1, r1, m1⟩⟩) fun ws s1 ⟨vs, H1, I1, rws, eh1, xs, st, R1, r1, x, y, us, ys, exs, hx, hy, hl, m1⟩ => ?_) na np)))
  subst exs
  obtain ⟨v1, v2, rfl, rx, ry⟩ := two_of r1
  obtain ⟨a, vs1, rfl, ha1, rr1⟩ := lst_of R1 rx hx
  obtain ⟨b, vs2, rfl, hb1, rr2⟩ := lst_of R1 ry hy
  have es1 := rr1.strs
  subst es1
  obtain ⟨its, rv, p1, z1⟩ := I1.list (.inl (.inl ha1))
  obtain ⟨its2, rv2, p2, z2⟩ := I1.list (.inl (.inl hb1))
  have ew : ws = [.ref a, .ref b] := by
    cases rws with
    | cons c1 rr => cases rr with
      | cons c2 rr => cases rr; cases c1; cases c2; rfl
  subst ew
  have hl2 : us.length = vs2.length := by rw [hl]; exact rr2.length
  have hsz : its.toArray.size = its2.toArray.size := by
    have c1 := rv.length
    have c2 := rv2.length
    rw [List.length_map] at c1
    rw [List.size_toArray, List.size_toArray]; omega
  have huz : us.length ≤ sizeLine := by rw [List.length_map] at z1; exact z1
  refine call_zip_2 p1.isList p2.isList fun h1 hz hTI hTO g1 g2 hsz5 hk => Calls.spliced_nil ?_
  have D : ZipApart (s1.heap.objs.size + 4) (s1.heap.objs.size + 2) (s1.heap.objs.size + 3) s1.heap.objs.size (s1.heap.objs.size + 1) a b := zipApart_new p1.lt p2.lt
  refine zl_call (s := { s1 with heap := h1 }) (I1.ok.hd hc) D hsz (by have c1 := rv.length; rw [List.length_map] at c1; rw [List.size_toArray]; omega) hz hTI hTO g1 g2 (p1.isList.at fun o e => hk _ o e) (p2.isList.at fun o e => hk _ o e) fun h2 tk acc c as kp eS el g ea => ?_
  have hk2 : ∀ b o, s1.heap.get? b = some o → h2.get? b = some o := fun b o e => by
    have hb := Heap.lt_size e
    exact kp b o (Nat.ne_of_lt (Nat.lt_of_lt_of_le hb (Nat.le_add_right _ _))) (Nat.ne_of_lt (Nat.lt_of_lt_of_le hb (Nat.le_add_right _ _))) (Nat.ne_of_lt hb) (Nat.ne_of_lt (Nat.lt_of_lt_of_le hb (Nat.le_add_right _ _))) (hk b o e)
  have hle : s1.heap.objs.size ≤ h1.objs.size := by rw [hsz5]; exact Nat.le_add_right _ _
  obtain ⟨H', ext, fr, atS, pr, I2⟩ := zl_laid (tk := tk) I1 hk2 hle rv rv2 hl2 huz eS el g ea
  have newS : H1 h1.objs.size = none := I1.hok.fresh hle
  have st2 : Step eh1 H1 eh1 H' := ⟨fun c o h n t => ⟨ext c _ h, n⟩, fun c xs h => ext c _ h, fun c o u h => ext c _ h⟩
  have R2 : Rh X.K X.mg Hd eh1 H' := ⟨R1.tb.ext fun b u e => ext b u e, fun a u e => by
    obtain ⟨w, hw, _⟩ := (R1.ob a u e).some
    exact (R1.ob a u e).step' st2 (by rw [hw]; exact ext a w hw), fun a z => by
    obtain ⟨⟨w, hw⟩, n⟩ := R1.hd a z
    exact ⟨⟨w, ext a _ hw⟩, n⟩⟩
  refine ⟨.ref h1.objs.size, H', I2, rfl, ?_⟩
  exact k eh1 H' (.lst _) (.ref _) (st.trans st2) R2 ⟨_, as.map V.ref, rfl, atS, ⟨R1.fresh newS, R1.notHid newS⟩, rpL_zip (rr2.step st2) hl pr⟩ m1
def mRevT (ma : ME) : ME := fun xc es eh q => ma xc es eh fun x eh1 => ∃ xs, x = .tup xs ∧ q (.tup xs.reverse) eh1
theorem re_revT {j : Nat} {p3 p4 p5 : Pos} (h : PE X e (U X.K X.mg E ma)) : PE X (.Subscript e (.Slice none none (some (.UnaryOp .USub (.Constant (.int 1) j p3) p4)) p5) pos) (U X.K X.mg E (mRevT ma)) := by
  have hst : PO X (some (.UnaryOp .USub (.Constant (.int 1) j p3) p4)) (tPart (tUn (rU fun i => .int (-i)) (tC (.int 1)))) := po_some (pe_un un_neg pe_int)
  refine ⟨fun pins s σ H Q I ⟨Hd, es, eh, xc, q, R, xo, m, k⟩ => Subscript_ (thn (h.run pins s σ H (fun v H1 => ∃ eh1 xs, Step eh H eh1 H1 ∧ Rh X.K X.mg Hd eh1 H1 ∧ Rp X.K X.mg Hd eh1 H1 (.tup xs) v ∧ q (.tup xs.reverse) eh1) I ⟨Hd, es, eh, xc, _, R, xo, m, fun eh1 H1 x v s1 R1 r1 ⟨xs, ex, m1⟩ => ⟨eh1, xs, s1, R1, ex ▸ r1, m1⟩⟩) fun u s1 ⟨v, H1, I1, ru, eh1, xs, st, R1, r1, m1⟩ => ?_)⟩
  obtain ⟨a, vs, rfl, ht, rr⟩ := r1
  cases ru
  refine wpAny_Slice (thn (po_none.run pins s1 σ H1 (fun o H2 => o = none ∧ H2 = H1) I1 ⟨rfl, rfl⟩) fun w1 s2 ⟨l, H2, I2, pl, el, e2⟩ => ?_)
  subst el e2
  refine thn (po_none.run pins s2 σ H2 (fun o H3 => o = none ∧ H3 = H2) I2 ⟨rfl, rfl⟩) fun w2 s3 ⟨l, H3, I3, pu, eu, e3⟩ => ?_
  subst eu e3
  refine thn (hst.run pins s3 σ H3 (fun o H4 => o = some (-1) ∧ H4 = H3) I3 ⟨1, rfl, -1, rfl, rfl, rfl⟩) fun w3 s4 ⟨o, H4, I4, ps, eo, e4⟩ => ?_
  subst eo e4
  cases pl
  cases pu
  have I5 : Inv X pins σ H4 { s4 with heap := s4.heap.push { cls := .type "slice", data := .fields #[.none, .none, w3] } } := I4.kept (t' := s4.toks) fun b ob q => Heap.get?_push_of_some _ q
  obtain ⟨its, rv, tp, hz⟩ := I5.tuple ht
  have hlen := rv.length
  have new := I5.hok.fresh (Nat.le_refl _)
  show wpAny _ X.A (subscriptTail e (.Slice none none (some (.UnaryOp .USub (.Constant (.int 1) j p3) p4)) p5) (.ref a) (.ref s4.heap.objs.size)) _ X.xe _
  refine tail_any (ops := [.ref a, .ref s4.heap.objs.size]) tp.typeIs PyProof.Rows.slot_tuple_getitem.lookup (getItem_tup_rev tp (Heap.IsSliceOf.new _ _ _ w3) ps (by rw [List.size_toArray]; omega) ⟨.ref _, _, I5.laid (t' := s4.toks) (o := .tup vs.reverse) (fun b ob q => Heap.get?_push_of_some _ q) (Nat.le_refl _) ⟨by rw [List.length_reverse]; exact hz, its.reverse, rv.reverse, IsTup.new _ _⟩, rfl, ?_⟩) (by with_unfolding_all rfl)
  exact k eh1 _ (.tup _) (.ref _) (st.trans (.newF new)) (R1.newF new) ⟨_, vs.reverse, rfl, .inl (.inl upd_same), (rr.step (.newF new)).reverse⟩ m1
end
/-! ### sorted(t) of a tuple of data -/
section
variable {prog : Program} {w : World} {A : Around} {E : Value → Shared → Prop} {s : Shared}
open PySem.W in
theorem tup_collect {l : Addr} {vs : List Value} {Q : List Value → Shared → Prop} (hl : IsTup s.heap l vs.toArray) (hz : vs.length ≤ sizeLine)
    (q : Q vs { s with heap := (s.heap.push (seqObj "list" #[] 0)).update s.heap.objs.size (Obj.mapSeq (· ++ vs.toArray)) }) : wpAny (model prog w) A (collect (.ref l)) Q E s := by
  obtain ⟨o, ho, hc, n, hd⟩ := hl
  have e0 : (s.heap.push (seqObj "list" #[] 0)).get? s.heap.objs.size = some (seqObj "list" #[] 0) := Heap.get?_push_size _ rfl
  have e1 : (s.heap.push (seqObj "list" #[] 0)).get? l = some o := Heap.get?_push_of_some _ ho
  have fin : wpAny (model prog w) A (do
      let o ← load s.heap.objs.size
      match o.data with
      | .seq xs _ => pure xs.toList
      | _ => unsupported "internal:collect") Q E { s with heap := (s.heap.push (seqObj "list" #[] 0)).update s.heap.objs.size (Obj.mapSeq (· ++ vs.toArray)) } := by
    refine wpAny_bind (wpAny_load (get?_update_seq e0 _) ?_)
    show wpAny _ A (pure ((#[] : Array Value) ++ vs.toArray).toList) Q E _
    rw [show ((#[] : Array Value) ++ vs.toArray).toList = vs by simp]
    exact wpAny_pure q
  unfold collect
  refine wpAny_bind (wpAny_runValue (codeAny_builtin entry_proto_collect' (by
    show wpAny _ _ (do again (.builtin "list.__iadd__" ⟨[← newList [], .ref l], []⟩)) _ _ s
    refine wpAny_bind (wpAny_newList (wpAny_pure ⟨Code.quiet_builtin _ (by decide +kernel), codeAny_builtin entry_list_iadd' (by
      show wpAny _ _ (Builtin.List.listExtendWith (.ref s.heap.objs.size) (.ref l) (.ref s.heap.objs.size)) _ _ { s with heap := s.heap.push (seqObj "list" #[] 0) }
      unfold Builtin.List.listExtendWith
      refine wpAny_bind (wpAny_typeOf (T := "tuple") ⟨o, e1, hc⟩ ?_)
      rw [if_pos (by rw [show (Value.type "tuple" == Value.type "tuple") = true by rfl]; simp)]
      refine wpAny_bind (listItems_at e1 hd (wpAny_bind (listItems_at (xs := #[]) (n := 0) e0 rfl ?_)))
      rw [if_neg (by simp)]
      exact wpAny_bind (listUpdate_at (xs := #[]) (n := 0) e0 rfl (wpAny_pure fin) (Nat.zero_le _) (by show (#[] ++ vs.toArray).size ≤ sizeLine + 1; simp only [Array.size_append, List.size_toArray, List.length_nil]; omega)))⟩)))))
open PySem.W in
theorem tup_sorted {β : Type} {vs : List Value} {bs : List β} {enc : β → PyData} {R : Value → β → Prop} {l : Addr} {Q : Value → Shared → Prop} (hl : IsTup s.heap l vs.toArray) (e : EachIs R vs bs) (er : EachIs (fun v b => ∃ as, Reads s.heap v (enc b) as) vs bs) (hal : AllAlike (bs.map enc)) (hk : Sortable (bs.map enc)) (hL : bs.length ≤ sizeLine)
    (hu : ∀ b, b ∈ bs → A.units + 2 + (enc b).depth < cLine) (q : ∀ out, out.length = bs.length → EachIs R out (bs.mergeSort (dataLe false enc)) → Q (.ref (s.heap.objs.size + 1)) { s with heap := sortedAll s.heap vs (List.toArray out) }) :
    wpAny (model prog w) A (call (.builtin "sorted") [.ref l]) Q E s := by
  have hz : vs.length ≤ sizeLine := by rw [e.length]; exact hL
  have er2 : EachIs (fun v b => ∃ as, Reads (sortingHeap (copyHeap s.heap vs) (s.heap.objs.size + 1) vs) v (enc b) as) vs bs := er.mono fun _ _ ⟨as, r⟩ => ⟨as, PyProof.Rows.Reads.keeps (fun _ _ => sorting_copy_old) r⟩
  have S : SortsAt prog w A.in1.in1 { s with heap := sortingHeap (copyHeap s.heap vs) (s.heap.objs.size + 1) vs } _ vs := SortsAt.data (s := { s with heap := sortingHeap (copyHeap s.heap vs) (s.heap.objs.size + 1) vs }) (each_map (R := fun v d => ∃ as, Reads (sortingHeap (copyHeap s.heap vs) (s.heap.objs.size + 1) vs) v d as) enc er2) hal hk (bound_map hu)
  refine call_function_entry_kw kind_sorted plain_sorted entry_sorted (args_sorted1 _) ?_
  unfold Builtin.«sorted»
  have n1 : ((s.heap.push (seqObj "list" #[] 0)).update s.heap.objs.size (Obj.mapSeq (· ++ vs.toArray))).objs.size = s.heap.objs.size + 1 := by rw [Heap.size_update]; exact Heap.size_push ..
  refine wpAny_bind (m := checkCount "sorted" 1 1 _) (wpAny_pure (wpAny_bind (tup_collect hl hz (wpAny_bind (wpAny_newList ?_ hz)))))
  show wpAny _ _ _ _ _ { s with heap := copyHeap s.heap vs }
  rw [n1]
  refine wpAny_bind (wpAny_holding (wpAny_call_entry_kw slot_list_sort ⟨_, copyHeap_at s.heap vs, rfl⟩ entry_list_sort ?_ (args_list_sort _)))
  show wpAny (model prog w) A.in1.in1 (Builtin.«list.sort» ⟨[.ref (s.heap.objs.size + 1)], []⟩) _ _ _
  refine list_sort_vals (s := { s with heap := copyHeap s.heap vs }) (copyHeap_at s.heap vs) S hz ⟨_, rfl, wpAny_pure ⟨_, rfl, ?_⟩⟩
  exact q _ (by rw [sortVals_length false rfl]; exact e.length) (sortVals_data false e er2 hal)
end
section
variable {X : Cx}
def bSortU : EOL := fun xs eh q => ∃ ys, xs = [.tup ys] ∧ ys.all isD = true ∧ W.AllAlike (ys.map D) ∧ W.Sortable (ys.map D) ∧ (∀ y ∈ ys, (D y).depth ≤ 60) ∧ q (.lst (sortT ys)) eh
theorem cb_sortU {k : Nat} (hr : RoomG k X.A) : CallR X (.builtin "sorted") (UL X.K X.mg bSortU) := by
  intro pins s σ H vs0 us Q I r h
  obtain ⟨Hd, eh, zs, q, R, rz, ⟨xs, rfl, hd, hal, hsk, hdp, m⟩, kk⟩ := h
  obtain ⟨v, rfl, rx⟩ := one_of rz
  obtain ⟨a, vs, rfl, ha, rl⟩ := rx
  rw [Vals.ref1 r]
  obtain ⟨its, rv, hls, hz⟩ := I.tuple ha
  have hlen : vs.length = xs.length := rl.length.symm
  have hzs := zip_snd (as := vs) (bs := xs) hlen
  have hzl : its.length = (vs.zip xs).length := by rw [List.length_zip, ← rv.length, hlen, Nat.min_self]
  have hea : W.EachIs (fun (u : Value) (b : V × EV) => RelV b.1 u ∧ Rp X.K X.mg Hd eh H b.2 b.1) its (vs.zip xs) := eachIs_zip hzl fun i u b hu hb => by
    rw [List.getElem?_zip_eq_some] at hb
    obtain ⟨x', hx', r'⟩ := rl.get' hb.1
    obtain ⟨u', hu', rr'⟩ := rv.get hb.1
    rw [hb.2] at hx'; rw [hu] at hu'
    cases hx'; cases hu'
    exact ⟨rr', r'⟩
  have hmem : ∀ b ∈ vs.zip xs, b.2 ∈ xs := fun b hb => (List.of_mem_zip hb).2
  have her : W.EachIs (fun (u : Value) (b : V × EV) => ∃ as, Reads s.heap u (D b.2) as) its (vs.zip xs) := eachIs_zip hzl fun i u b hu hb => by
    obtain ⟨u', hu', h1, h2⟩ := eachIs_get hea i b hb
    rw [hu] at hu'; cases hu'
    exact (Dat.of eh (List.all_eq_true.mp hd b.2 (hmem b (List.mem_of_getElem? hb)))).reads I R _ _ h2 h1
  have hmap : (vs.zip xs).map (fun b => D b.2) = xs.map D := by
    have : (vs.zip xs).map (fun b => D b.2) = ((vs.zip xs).map (·.2)).map D := by rw [List.map_map]; rfl
    rw [this, hzs]
  refine tup_sorted (β := V × EV) (enc := fun b => D b.2) hls hea her (by rw [hmap]; exact hal) (by rw [hmap]; exact hsk) (by rw [← hzl, ← rv.length]; omega) (fun b hb => ?_) fun out ho hout => ?_
  · have h1 := hdp b.2 (hmem b hb)
    have := hr.units
    omega
  · generalize hSS : (vs.zip xs).mergeSort (W.dataLe false fun b => D b.2) = SS at hout
    have hperm : SS.Perm (vs.zip xs) := hSS ▸ List.mergeSort_perm _ _
    have ep := each_vals hout
    have hL2 : SS.length ≤ sizeLine := by rw [hperm.length_eq, ← hzl, ← rv.length]; omega
    have hrp : RpL X.K X.mg Hd eh H (SS.map (·.2)) (SS.map (·.1)) := rpL_of fun b hb => by
      obtain ⟨i, hi⟩ := mem_get (hperm.mem_iff.mp hb)
      obtain ⟨u, _, h2⟩ := eachIs_get hea i b hi
      exact h2.2
    have hsort : SS.map (·.2) = sortT xs := by
      rw [← hSS, PySem.W.sort_maps (r := W.dataLe false fun b : V × EV => D b.2) (s := W.dataLe false D) (fun b : V × EV => b.2) (fun _ _ _ _ => rfl), hzs]; rfl
    rw [hsort] at hrp
    obtain ⟨ep2, he'⟩ := PyProof.Rows.sortedAll_at s.heap its out.toArray
    have n2 : H (s.heap.objs.size + 1) = none := I.hok.fresh (Nat.le_succ _)
    refine ⟨.ref _, upd H (s.heap.objs.size + 1) (.lst (SS.map (·.1))), I.laid (t' := s.toks) (fun _ _ => PyProof.Rows.sortedAll_old) (Nat.le_succ _) ⟨by rw [List.length_map]; exact hL2, out, ep2, ep, by simpa using he'⟩, rfl, ?_⟩
    have st : Step eh H eh (upd H (s.heap.objs.size + 1) (.lst (SS.map (·.1)))) := .newF n2
    exact kk eh _ (.lst (sortT xs)) (.ref _) st (R.newF n2) ⟨_, _, rfl, upd_same, ⟨R.fresh n2, R.notHid n2⟩, hrp.step st⟩ m
end
end VM

/-! VMX10: lists lent: within an expression some explicit lists are taken as frozen; behind it they are explicit again. -/
namespace VM
open PySem PySem.Spec PyProof.Rows L2
mutual
/-- a tree without lists -/
def noL : EV → Bool
  | .lst _ => false
  | .scr _ => false
  | .exc _ _ => false
  | .exa _ _ _ => false
  | .tup xs => noLL xs
  | .dct kvs => noLK kvs
  | .obj _ fs => noLF fs
  | _ => true
def noLL : List EV → Bool
  | [] => true
  | x :: xs => noL x && noLL xs
def noLK : List (Key × EV) → Bool
  | [] => true
  | (_, x) :: xs => noL x && noLK xs
def noLF : List (Str × EV) → Bool
  | [] => true
  | (_, x) :: xs => noL x && noLF xs
end
def noO : EO → Bool
  | .lst xs => noLL xs
  | .dct kvs => noLK kvs
  | .ins _ fs => noLF fs
def mBor (k : Nat) (m : ME) : ME := fun xc es eh q => ∃ (x : EV) (S : Addr → Bool), es[k]? = some (some x) ∧ (∀ a, S a = true → ∃ xs, eh a = some (.lst xs)) ∧ (∀ a o, S a = false → eh a = some o → noO o = true) ∧
  m xF (es.set k (some (fz S eh 9 x))) (drE S eh) fun y eh1 => eh1 = drE S eh ∧ noL y = true ∧ q y eh
section
variable {K : PySem.W.Frag} {mg : Str → Option Value} {Hd : Addr → Prop} {eh : Eh} {H : Hp} {S : Addr → Bool}
theorem drE_none {a : Addr} (h : eh a = none) : drE S eh a = none := by unfold drE; split <;> first | rfl | exact h
theorem st_dr : Step eh H (drE S eh) H := ⟨fun _ _ h n _ => ⟨h, drE_none n⟩, fun _ _ h => h, fun _ _ _ h => h⟩
theorem rh_dr (R : Rh K mg Hd eh H) : Rh K mg Hd (drE S eh) H := by
  refine ⟨R.tb, fun c o e => ?_, fun c hc => ⟨(R.hd c hc).1, drE_none (R.hd c hc).2⟩⟩
  unfold drE at e
  split at e
  · cases e
  · exact (R.ob c o e).step' st_dr rfl
theorem ghostL (R : Rh K mg Hd eh H) (hS : ∀ a, S a = true → ∃ xs, eh a = some (.lst xs)) : ∀ (n : Nat) (y : EV) (v : V), Rp K mg Hd eh H y v → Rp K mg Hd (drE S eh) H (fz S eh n y) v := by
  intro m
  induction m with
  | zero => intro y v r; exact r.step st_dr
  | succ m ih =>
    intro y v r
    cases y with
    | tup xs =>
      obtain ⟨p, vs, e, h, t⟩ := r
      exact ⟨p, vs, e, h, t.map fun y _ v => ih y v⟩
    | lst xs =>
      obtain ⟨p, vs, e, h, nn, t⟩ := r
      exact ⟨p, vs, e, h, ⟨drE_none nn.1, nn.2⟩, t.map fun y _ v => ih y v⟩
    | dct xs =>
      obtain ⟨p, o, us, e, h, t⟩ := r
      exact ⟨p, o, us, e, h, t.map fun y _ v => ih y.2 v⟩
    | obj C xs =>
      obtain ⟨p, c, dx, us, e, mm, h, nn, t⟩ := r
      exact ⟨p, c, dx, us, e, mm, h, ⟨drE_none nn.1, nn.2⟩, t.map fun y _ v => ih y.2 v⟩
    | ref p =>
      simp only [fz]
      cases hs : S p with
      | false => simp only [Bool.false_eq_true, if_false]; exact r
      | true =>
        simp only [if_true]
        obtain ⟨xs, e⟩ := hS p hs
        have hz : drE S eh p = none := by unfold drE; rw [hs]; rfl
        have nh : ¬ Hd p := fun z => by have := (R.hd p z).2; rw [e] at this; cases this
        obtain ⟨vs, h, t⟩ := R.ob p _ e
        cases r
        rw [e]
        exact ⟨p, vs, rfl, h, ⟨hz, nh⟩, t.map fun y _ v => ih y v⟩
    | _ => exact r.step st_dr
section
variable (hL : ∀ a, S a = true → ∃ vs, H a = some (.lst vs))
include hL
theorem dr_none {a : Addr} {o : HO} (e : H a = some o) (ne : ∀ vs, o ≠ .lst vs) (n : drE S eh a = none) : eh a = none := by
  unfold drE at n
  cases hs : S a with
  | false => rw [hs] at n; simpa using n
  | true =>
    obtain ⟨vs, h⟩ := hL a hs
    rw [e] at h; cases h
    exact absurd rfl (ne vs)
mutual
theorem noL_up : ∀ {x : EV} {v : V}, noL x = true → Rp K mg Hd (drE S eh) H x v → Rp K mg Hd eh H x v
  | .non, _, _, h => h
  | .bl _, _, _, h => h
  | .int _, _, _, h => h
  | .str _, _, _, h => h
  | .ty _, _, _, h => h
  | .ref _, _, _, h => h
  | .glo _, _, _, h => h
  | .tup xs, _, n, ⟨a, vs, e, h, r⟩ => ⟨a, vs, e, h, noLL_up (show noLL xs = true from n) r⟩
  | .dct xs, _, n, ⟨a, o, us, e, h, r⟩ => ⟨a, o, us, e, h, noLK_up (show noLK xs = true from n) r⟩
  | .obj C xs, _, n, ⟨a, c, dx, us, e, mm, h, nn, r⟩ => ⟨a, c, dx, us, e, mm, h, ⟨dr_none hL h (fun _ z => nomatch z) nn.1, nn.2⟩, noLF_up (show noLF xs = true from n) r⟩
theorem noLL_up : ∀ {xs : List EV} {vs : List V}, noLL xs = true → RpL K mg Hd (drE S eh) H xs vs → RpL K mg Hd eh H xs vs
  | [], _, _, h => h
  | x :: xs, _, n, ⟨v, r, e, hx, ht⟩ => ⟨v, r, e, noL_up (by simp only [noLL, Bool.and_eq_true] at n; exact n.1) hx, noLL_up (by simp only [noLL, Bool.and_eq_true] at n; exact n.2) ht⟩
theorem noLK_up : ∀ {xs : List (Key × EV)} {vs : List (Key × V)}, noLK xs = true → RpK K mg Hd (drE S eh) H xs vs → RpK K mg Hd eh H xs vs
  | [], _, _, h => h
  | (k, x) :: xs, _, n, ⟨v, r, e, hx, ht⟩ => ⟨v, r, e, noL_up (by simp only [noLK, Bool.and_eq_true] at n; exact n.1) hx, noLK_up (by simp only [noLK, Bool.and_eq_true] at n; exact n.2) ht⟩
theorem noLF_up : ∀ {xs : List (Str × EV)} {vs : List (Str × V)}, noLF xs = true → RpF K mg Hd (drE S eh) H xs vs → RpF K mg Hd eh H xs vs
  | [], _, _, h => h
  | (k, x) :: xs, _, n, ⟨v, r, e, hx, ht⟩ => ⟨v, r, e, noL_up (by simp only [noLF, Bool.and_eq_true] at n; exact n.1) hx, noLF_up (by simp only [noLF, Bool.and_eq_true] at n; exact n.2) ht⟩
end
end
end
section
variable {X : Cx} {E : XK} {e : Expr}
theorem re_bor {k : Nat} {m : ME} (he : PE X e (U X.K X.mg (fun _ _ _ => False) m)) : PE X e (U X.K X.mg E (mBor k m)) :=
  PE.imp he fun σ H Q ⟨Hd, es, eh, xc, q, R, xo, ⟨x, S, hx, hS, hno, mm⟩, kk⟩ => by
    have R2 : Rl X.K X.mg Hd (drE S eh) H (es.set k (some (fz S eh 9 x))) σ := by
      refine ⟨by rw [List.length_set]; exact R.len, fun i y hy => ?_, rh_dr R.obj⟩
      by_cases hi : k = i
      · subst hi
        obtain ⟨v, hv, r⟩ := R.loc k x hx
        have hk : k < es.length := (List.getElem?_eq_some_iff.mp hx).1
        rw [List.getElem?_set_self hk] at hy
        cases hy
        exact ⟨v, hv, ghostL R.obj hS 9 x v r⟩
      · rw [List.getElem?_set_ne hi] at hy
        obtain ⟨v, hv, r⟩ := R.loc i y hy
        exact ⟨v, hv, r.step st_dr⟩
    refine ⟨Hd, es.set k (some (fz S eh 9 x)), drE S eh, xF, _, R2, fun _ _ _ _ _ _ _ _ _ _ _ _ hx => hx, mm, fun eh1 H1 y v s1 R1 r1 ⟨e1, hn, hq⟩ => ?_⟩
    subst e1
    have st : Step eh H eh H1 := ⟨fun a o h n t => ⟨(s1.st a o h (drE_none n) t).1, n⟩, s1.tup, s1.frz⟩
    have hl : ∀ a, S a = true → ∃ xs vs, eh a = some (.lst xs) ∧ H1 a = some (.lst vs) ∧ RpL X.K X.mg Hd eh H1 xs vs := fun a ha => by
      obtain ⟨xs, e⟩ := hS a ha
      obtain ⟨vs, h, t⟩ := R.obj.ob a _ e
      exact ⟨xs, vs, e, (s1.st a _ h (by unfold drE; rw [ha]; rfl) (fun _ z => nomatch z)).1, t.step st⟩
    have hL : ∀ a, S a = true → ∃ vs, H1 a = some (.lst vs) := fun a ha => let ⟨_, vs, _, h, _⟩ := hl a ha; ⟨vs, h⟩
    refine kk eh H1 y v st ⟨R1.tb, fun a o ha => ?_, fun a z => ⟨(R1.hd a z).1, (R.obj.hd a z).2⟩⟩ (noL_up hL hn r1) hq
    cases hs : S a with
    | true =>
      obtain ⟨xs, vs, e1, e2, e3⟩ := hl a hs
      rw [ha] at e1; cases e1
      exact ⟨vs, e2, e3⟩
    | false =>
      have h1 := R1.ob a o (by unfold drE; rw [hs]; exact ha)
      have hn := hno a o hs ha
      cases o with
      | lst xs => obtain ⟨vs, h, t⟩ := h1; exact ⟨vs, h, noLL_up hL hn t⟩
      | dct xs => obtain ⟨vs, h, t⟩ := h1; exact ⟨vs, h, noLK_up hL hn t⟩
      | ins C xs => obtain ⟨c, dx, us, m, h, t⟩ := h1; exact ⟨c, dx, us, m, h, noLF_up hL hn t⟩
end
end VM

/-! VMX11: list(d) to be written, list(text), dict(zip(texts, xs)), tuple * int, classes called with keywords alone. -/
namespace VM
open PySem PySem.Spec PyProof.Rows L2
section
variable {X : Cx} {E : XK} {e e2 : Expr} {ma : ME} {ta tk : MA} {p p2 pos pos2 : Pos}
/-! ### list(d), to be written -/
def bListDR : EOL := fun xs eh q => ∃ x kvs, xs = [x] ∧ dctE eh x = some kvs ∧ ∀ p, eh p = none → q (.ref p) (eupd eh p (some (.lst (kvs.map fun p => keyV p.1))))
theorem cb_listDR (hc : X.calm = true) : CallR X (.type "list") (UL X.K X.mg bListDR) := CallR.imp (list_of_keys hc) fun vs H Q ⟨Hd, eh, xs, q, R, rx, ⟨x, kvs, ex, hx, m⟩, k⟩ => by
  subst ex
  obtain ⟨v, rfl, rv⟩ := one_of rx
  obtain ⟨d, us, rfl, rd, rk⟩ := dct_of R rv hx
  refine ⟨d, us, rfl, rd, fun l hl => ?_⟩
  have st : Step eh H (eupd eh l (some (.lst (kvs.map fun p => keyV p.1)))) (upd H l (.lst (us.map fun p => kV p.1))) := .new hl
  exact k _ _ (.ref l) (.ref l) st (R.new (eo := .lst (kvs.map fun p => keyV p.1)) hl ⟨_, upd_same, (rpL_keys rk).step st⟩) rfl (m l (R.fresh hl))
/-! ### list(text) -/
def bListT : EOL := fun xs eh q => ∃ z : Str, xs = [.str z] ∧ z.length ≤ 1000 ∧ q (.lst (z.cps.toList.map fun c => .str ⟨#[c]⟩)) eh
theorem signs_vals {z : Str} {acc : Array Value} (h : ItemsOf (SignAt z) acc z.cps.size) : Vals ((z.cps.toList.map fun c => (⟨#[c]⟩ : Str)).map V.str) acc.toList := by
  have hl : (z.cps.toList.map fun c => (⟨#[c]⟩ : Str)).length = acc.toList.length := by rw [List.length_map, Array.length_toList, Array.length_toList]; exact h.1.symm
  refine vals_of_at (by rw [List.length_map]; exact hl) fun j x u hx hu => ?_
  obtain ⟨c, t, hc, rfl⟩ := h.2 j u (by simpa using hu)
  rw [List.getElem?_map, List.getElem?_map, Array.getElem?_toList, hc] at hx
  cases hx
  exact ⟨_, rfl⟩
theorem cb_listT (hc : X.calm = true) : CallR X (.type "list") (UL X.K X.mg bListT) := by
  intro pins s σ H xs us Q I r h
  obtain ⟨Hd, eh, ys, q, R, ry, ⟨z, rfl, hz, m⟩, k⟩ := h
  obtain ⟨v, rfl, rv⟩ := one_of ry
  cases rv
  obtain ⟨u, rfl, ru⟩ := vals1 r
  obtain ⟨t, rfl⟩ := ru
  have hz2 : z.cps.size ≤ sizeLine := Nat.le_trans (show z.cps.size ≤ 1000 from hz) (by decide)
  have n := I.hok.fresh (Nat.le_refl s.heap.objs.size)
  refine call_list_str (I.ok.hd hc) z t (fun h1 t1 acc c1 kp got it => ?_) hz2
  refine ⟨.ref s.heap.objs.size, _, I.laid (o := .lst ((z.cps.toList.map fun c => (⟨#[c]⟩ : Str)).map V.str)) kp (Nat.le_refl _) ⟨by rw [List.length_map, List.length_map, Array.length_toList]; exact hz2, acc.toList, c1, signs_vals it, by simpa using got⟩, rfl, ?_⟩
  refine k eh _ (.lst ((z.cps.toList.map fun c => (⟨#[c]⟩ : Str)).map EV.str)) (.ref _) (.newF n) (R.newF n) ⟨_, _, rfl, upd_same, ⟨R.fresh n, R.notHid n⟩, .of_strs _⟩ ?_
  rw [List.map_map]
  exact m
/-! ### tuple * int -/
theorem tup_mul1 (l : Addr) (items : Array Value) (n : Nat) (dd : Option Addr) (sl : Array (Option Value)) (u : Tok) :
    Meets (Builtin.«tuple.__mul__» ⟨[.ref l, .int 1 u], []⟩) (fun _ R s => s.heap.get? l = some { cls := .type "tuple", dict := dd, data := .seq items n, slots := sl } ∧ R (.ok (.ret (Value.ref l))) s) :=
  .of_wp fun prog w A R s h => by
    obtain ⟨hp, g, d, tk, os⟩ := s
    obtain ⟨hl, h⟩ := h
    have f1 := AutoSeq1.idx_int
    wp_walk using wpAny_loadPart' hl
    repeat (first
      | (refine wpAny_ite_true (by simp) ?_; wp_walk using wpAny_loadPart' hl)
      | (refine wpAny_ite_false (by simp) ?_; wp_walk using wpAny_loadPart' hl))
    exact ⟨_, rfl, h⟩
def oMulT : EO2 := fun x y eh q => ∃ xs k, x = .tup xs ∧ y = .int k ∧ xs ≠ [] ∧ 1 ≤ k ∧ k ≤ 1000 ∧ xs.length ≤ 1000 ∧ q (.tup (List.replicate k.toNat xs).flatten) eh
theorem rpL_rep {K : PySem.W.Frag} {mg : Str → Option Value} {Hd : Addr → Prop} {eh : Eh} {H : Hp} {xs : List EV} {vs : List V} (r : RpL K mg Hd eh H xs vs) : ∀ n : Nat, RpL K mg Hd eh H (List.replicate n xs).flatten (List.replicate n vs).flatten
  | 0 => rfl
  | n + 1 => by simp only [List.replicate_succ, List.flatten_cons]; exact r.append (rpL_rep r n)
theorem op_mulT : OpR X (binaryOp .Mult) (U2 X.K X.mg oMulT) := by
  intro pins s σ H v u a b Q I r1 r2 ⟨Hd, eh, x, y, q, R, rx, ry, ⟨xs, n, ex, ey, hne, h1, h2, hz, m⟩, k⟩
  subst ex ey
  cases ry
  obtain ⟨l, vs, rfl, hT, rp⟩ := rx
  have hlen := rp.length
  by_cases hn : n = 1
  · subst hn
    cases r1
    obtain ⟨t, rfl⟩ := r2
    obtain ⟨its, rv, ⟨⟨cls, dd, data, sl⟩, ho, hc, nn, hd⟩, hs⟩ := I.tuple hT
    simp only at hc hd
    subst hc hd
    have tm := tup_mul1 l its.toArray nn dd sl t
    refine wpAny_binaryOp_repeat_ref (T := "tuple") (U := "int") (by decide) ⟨_, ho, rfl⟩ (fun s' => typeIs_int s' 1 t) noFill_tuple_mul F.fills_int_mul F.slot_int_rmul repeat_tuple F.slot_int_index.lookup
      (call_meets F.slot_int_rmul (typeIs_int s 1 t) F.entry_int_rmul (F.args_int_rmul_2 _ _) (int_rmul_tuple 1 t l its.toArray nn dd sl) ⟨ho, rfl, ⟨_, ho, rfl⟩, call_meets F.slot_tuple_mul ⟨_, ho, rfl⟩ F.entry_tuple_mul (F.args_tuple_mul_2 _ _) tm ⟨ho, .ref l, H, I.tok _, rfl, ?_⟩⟩)
    refine k eh H (.tup xs) (.ref l) .refl R ⟨l, vs, rfl, hT, rp⟩ ?_
    simpa using m
  · refine op_repT pins s σ H _ _ a b Q I r1 r2 ⟨l, n, vs, rfl, rfl, hT, fun z => hne (by rw [z] at hlen; exact List.length_eq_zero_iff.mp hlen), by omega, h2, by rw [← hlen]; exact hz, fun t ht => ?_⟩
    exact k eh _ (.tup _) (.ref t) (.newF ht) (R.newF ht) ⟨t, _, rfl, .inl (.inl upd_same), (rpL_rep rp n.toNat).step (.newF ht)⟩ m
/-! ### dict(zip(texts, xs)): a dict that may be written -/
def zipK (us : List Str) (ys : List EV) : List (Key × EV) := (us.zip ys).map fun p => (.inr p.1, p.2)
def mDictZip (t : MA) : ME := fun xc es eh q => t xc es eh fun xs eh1 => ∃ (x y : EV) (us : List Str) (ys : List EV), xs = [x, y] ∧ lstE eh1 x = some (us.map .str) ∧ lstE eh1 y = some ys ∧ us.length ≤ ys.length ∧ ∀ p, eh1 p = none → q (.ref p) (eupd eh1 p (some (.dct (mergeE [] (zipK us ys)))))
theorem zip_kvL : ∀ {us : List Str} {vs : List V} {its its2 : List Value}, Vals (us.map V.str) its → Vals vs its2 → us.length ≤ vs.length →
    KV ((us.zip vs).map fun p => ((.inr p.1 : Key), p.2)) ((us.zip its2).map fun p => ((.inr p.1 : Key), p.2))
  | [], _, _, _, _, _, _ => .nil
  | u :: us, [], _, _, _, _, h => by simp at h
  | u :: us, v :: vs, _ :: _, _ :: _, .cons r t, .cons r' t', h => .cons ⟨rfl, r'⟩ (zip_kvL t t' (by simpa using h))
theorem rpK_zipK {K : PySem.W.Frag} {mg : Str → Option Value} {Hd : Addr → Prop} {eh : Eh} {H : Hp} : ∀ {us : List Str} {ys : List EV} {vs : List V}, RpL K mg Hd eh H ys vs → RpK K mg Hd eh H (zipK us ys) ((us.zip vs).map fun p => ((.inr p.1 : Key), p.2))
  | [], _, _, _ => rfl
  | u :: us, [], _, r => by cases r; rfl
  | u :: us, y :: ys, _, ⟨v, r, e, hv, hr⟩ => by subst e; exact ⟨v, _, rfl, hv, rpK_zipK hr⟩
theorem re_dictZip (hc : X.calm = true) (hg : Gl X "dict") (hm : X.mg "dict" = none) (hg2 : Gl X "zip") (hm2 : X.mg "zip" = none) (ha : PA X [e, e2] (UA X.K X.mg E ta)) (na : starEach [e, e2] X.env = (false, eval e X.env) :: starEach [e2] X.env := by rfl) (np : (backTo pos2 (starEach [e2] X.env)).any (·.1) = false := by rfl)
    (hs : starEach [.Call (.Name "zip" p2) [e, e2] [] pos2] X.env = (false, eval (.Call (.Name "zip" p2) [e, e2] [] pos2) X.env) :: starEach [] X.env := by rfl) :
    PE X (.Call (.Name "dict" p) [.Call (.Name "zip" p2) [e, e2] [] pos2] [] pos) (U X.K X.mg E (mDictZip ta)) := by
  refine ⟨fun pins s σ H Q I ⟨Hd, es, eh, xc, q, R, xo, m, k⟩ => wpAny_Call_Name_kw (ld_blt I hg hm boot_dict (PyProof.Rows.callWith_type1 ?_ hs rfl))⟩
  rw [hs]
  refine Calls.spliced_cons (Call_ (ld_blt I hg2 hm2 PyProof.Rows.boot_zip (PyProof.Rows.callWith_type1 (thn (ha.run pos2 pins s σ H (fun vs H1 => ∃ eh1 xs, Step eh H eh1 H1 ∧ Rh X.K X.mg Hd eh1 H1 ∧ RpL X.K X.mg Hd eh1 H1 xs vs ∧ ∃ (x y : EV) (us : List Str) (ys : List EV), xs = [x, y] ∧ lstE eh1 x = some (us.map .str) ∧ lstE eh1 y = some ys ∧ us.length ≤ ys.length ∧ ∀ p, eh1 p = none → q (.ref p) (eupd eh1 p (some (.dct (mergeE [] (zipK us ys)))))) I
    ⟨Hd, es, eh, xc, _, R, xo, m, fun eh1 H1 xs vs s1 R1 r1 m1 => ⟨eh1, xs, s1, R1, r1, m1⟩⟩) fun ws s1 ⟨vs, H1, I1, rws, eh1, xs, st, R1, r1, x, y, us, ys, exs, hx, hy, hl, m1⟩ => ?_) na np)))
  subst exs
  obtain ⟨v1, v2, rfl, rx, ry⟩ := two_of r1
  obtain ⟨a, vs1, rfl, ha1, rr1⟩ := lst_of R1 rx hx
  obtain ⟨b, vs2, rfl, hb1, rr2⟩ := lst_of R1 ry hy
  have es1 := rr1.strs
  subst es1
  obtain ⟨its, rv, p1, z1⟩ := I1.list (.inl (.inl ha1))
  obtain ⟨its2, rv2, p2, z2⟩ := I1.list (.inl (.inl hb1))
  have ew : ws = [.ref a, .ref b] := by
    cases rws with
    | cons c1 rr => cases rr with
      | cons c2 rr => cases rr; cases c1; cases c2; rfl
  subst ew
  have hl2 : us.length ≤ vs2.length := by rw [← rr2.length]; exact hl
  have e1 : its.length = us.length := by have := rv.length; rw [List.length_map] at this; exact this.symm
  have e2 : its2.length = vs2.length := rv2.length.symm
  have huz : us.length ≤ sizeLine := by rw [List.length_map] at z1; exact z1
  refine call_zip_2 p1.isList p2.isList fun h1 hz hTI hTO g1 g2 hsz5 hk => Calls.spliced_nil ?_
  have D : ZipApart (s1.heap.objs.size + 4) (s1.heap.objs.size + 2) (s1.heap.objs.size + 3) s1.heap.objs.size (s1.heap.objs.size + 1) a b := zipApart_new p1.lt p2.lt
  have kv := zip_kvL rv rv2 hl2
  generalize hW : ((us.zip its2).map fun p => ((.inr p.1 : Key), p.2)) = ws at kv
  have hwl : ws.length = min its.toArray.size its2.toArray.size := by
    rw [← hW, List.length_map, List.length_zip, List.size_toArray, List.size_toArray, e1]
  refine PySem.call_dict_pairs (s := { s1 with heap := h1 }) (knd := mixKind X.prog X.w) (kvs := ws) (PySem.PairArg.zip _ _ _ _ _ a b D its.toArray its2.toArray) (I1.ok.hd hc) ⟨hz, hTI, ⟨_, _, hTO⟩, g1, g2, p1.isList.at fun o e => hk _ o e, p2.isList.at fun o e => hk _ o e⟩ ⟨hwl, fun i key v ⟨q1, q2⟩ => ?_⟩ (by rw [List.size_toArray, List.size_toArray, e1]; exact Nat.le_trans (Nat.min_le_left _ _) huz) fun h2 tk dd hk2 => ?_
  · have q1' : its[i]? = some key := by simpa using q1
    have q2' : its2[i]? = some v := by simpa using q2
    have hi : i < us.length := by rw [← e1]; exact (List.getElem?_eq_some_iff.mp q1').1
    obtain ⟨u', hu', hr⟩ := LiI.paired_get rv (i := i) (x := V.str us[i]) (by rw [List.getElem?_map, List.getElem?_eq_getElem hi]; rfl)
    rw [q1'] at hu'; cases hu'
    refine ⟨.inr us[i], ?_, kV_is (k := .inr us[i]) hr⟩
    rw [← hW, List.getElem?_map, (List.getElem?_zip_eq_some (z := (us[i], v))).mpr ⟨List.getElem?_eq_getElem hi, q2'⟩]
    rfl
  have hk3 : ∀ b o, s1.heap.get? b = some o → h2.get? b = some o := fun b o e => by
    have hb := Heap.lt_size e
    refine hk2 b o (fun z => ?_) (hk b o e)
    simp only [List.mem_cons, List.not_mem_nil, or_false] at z
    rcases z with z | z | z | z
    · exact absurd hb (by rw [z]; exact Nat.not_lt.mpr (Nat.le_add_right _ _))
    · exact absurd hb (by rw [z]; exact Nat.not_lt.mpr (Nat.le_add_right _ _))
    · exact absurd hb (by rw [z]; exact Nat.lt_irrefl _)
    · exact absurd hb (by rw [z]; exact Nat.not_lt.mpr (Nat.le_add_right _ _))
  have hle : s1.heap.objs.size ≤ h1.objs.size := by rw [hsz5]; exact Nat.le_add_right _ _
  have newS : H1 h1.objs.size = none := I1.hok.fresh hle
  have hmz : (mergeK [] ((us.zip vs2).map fun p => ((.inr p.1 : Key), p.2))).length ≤ sizeLine := by
    have := length_mergeK ((us.zip vs2).map fun p => ((.inr p.1 : Key), p.2)) []
    rw [List.length_nil, List.length_map, List.length_zip] at this
    omega
  have hsys : (h1.objs.size == sysModules) = false := beq_eq_false_iff_ne.mpr (Nat.ne_of_gt (Nat.lt_of_lt_of_le I1.big hle))
  have st2 : Step eh1 H1 (eupd eh1 h1.objs.size (some (.dct (mergeE [] (zipK us ys))))) (upd H1 h1.objs.size (.dK (mergeK [] ((us.zip vs2).map fun p => ((.inr p.1 : Key), p.2))))) := .new newS
  refine ⟨.ref h1.objs.size, _, I1.laid (t' := tk) hk3 hle (show ObjOk X.prog X.w _ _ _ (.dK (mergeK [] ((us.zip vs2).map fun p => ((.inr p.1 : Key), p.2)))) from ⟨hmz, hsys, merged [] ws, KV.merge kv .nil, dd⟩), rfl, ?_⟩
  exact k _ _ (.ref _) (.ref _) (st.trans st2) (R1.new (eo := .dct (mergeE [] (zipK us ys))) newS ⟨_, upd_same, (rpK_merge (rpK_zipK rr2) (show RpK _ _ _ _ _ [] [] from rfl)).step st2⟩) rfl (m1 _ (R1.fresh newS))
/-! ### C(k=v, ..), keywords alone -/
theorem re_makeN0 {CX : CXT} {k np : Nat} {f C : Addr} {fd : FuncData} {ps : List Str} {F : FN} {cn : Str} {ks : List Str} {kws : List Keyword} {g : List Value → List Value → List Value} {gV : List V → List V → List V} {gE : List EV → List EV → List EV} (M : Mk X.K C f) (hC : X.mg cn = some (.ref C)) (G : FnG X.prog X.w X.K X.mg X.base CX k f fd ps (spOf X.K X.mg np F)) (hr : RoomG (k + 1) X.A) (hg : Gl X cn) (hb : KBn X.K fd ps 1 ks g gV) (hG : GOk X.K X.mg gE gV) (hx : Passes CX X E)
    (hkw : PK X kws (UA X.K X.mg E tk)) (hall : (backToKw pos (keywordEach kws X.env)).all (·.1.isSome) = true := by rfl) (hks : (backToKw pos (keywordEach kws X.env)).filterMap (·.1) = ks := by rfl)
    (hdb : (cn == ("__debug__" : Str)) = false := by decide) (hpl : ((backTo pos (starEach [] X.env)).any (·.1) || (backToKw pos (keywordEach kws X.env)).any (·.1.isNone)) = false := by rfl) :
    PE X (.Call (.Name cn p) [] kws pos) (U X.K X.mg E (mMakeN cn F np 0 ks.length gE aNil tk)) :=
  PE.imp (G.makek0_ M hr hg hC hb (Passes.at hx) hkw hall hks hdb hpl) fun σ H Q ⟨Hd, es, eh, xc, q, R, xo, m, kk⟩ =>
    ⟨Hd, es, eh, xc, _, R, xo, m, fun eh2 H2 zs ws s2 R2 r2 ⟨h1, h2, m2⟩ => ⟨rfl, by rw [← h2]; exact r2.length.symm, fun x dx' hx hdx' hne => by
      have st1 : Step eh2 H2 eh2 (upd H2 dx' (.own x)) := .newF hdx'
      have R1' := R2.newF (o := .own x) hdx'
      have hx' : upd H2 dx' (.own x) x = none := by rw [upd_ne hne.symm]; exact hx
      have st2 : Step eh2 (upd H2 dx' (.own x)) (eupd eh2 x (some (.ins cn []))) (upd (upd H2 dx' (.own x)) x (.ins C dx' [])) := .new hx'
      have st := st1.trans st2
      obtain ⟨hl, m3⟩ := m2 x (R2.fresh hx)
      have rr := hG.rel (xs := [.ref x]) (vs := [.ref x]) (.cons rfl rfl) (r2.step st)
      exact ⟨Hd, _, _, xc, _, by rw [← hl]; exact rr.length.symm, R1'.new (eo := .ins cn []) hx' ⟨C, dx', [], hC, upd_same, rfl⟩, rr, (xo.step s2).step st, m3, fun eh3 H3 z w s3 R3 r3 ⟨e1, m4⟩ => ⟨by subst e1; exact r3, kk eh3 H3 (.ref x) (.ref x) (s2.trans (st.trans s3)) R3 rfl m4⟩⟩⟩⟩
end
end VM

/-! VMX12: isinstance of values of built-in kinds against an own class; == of an instance and such a value by the own __eq__. -/
namespace VM
open PySem PySem.Spec PyProof.Rows L2
/-- the class of a value of a built-in kind -/
def blt (eh : Eh) : EV → Option String
  | .int _ => some "int"
  | .str _ => some "str"
  | .lst _ => some "list"
  | .ref p => match eh p with
    | some (.lst _) => some "list"
    | _ => none
  | _ => none
section
variable {X : Cx} {k np : Nat} {f C : Addr} {fd : FuncData} {ps : List Str} {F : FN} {cn : Str}
theorem blt_ty {K : PySem.W.Frag} {mg : Str → Option Value} {Hd : Addr → Prop} {eh : Eh} {H : Hp} {x : EV} {v : V} {t : String} (R : Rh K mg Hd eh H) (r : Rp K mg Hd eh H x v) (h : blt eh x = some t) : TyOf K H v (.type t) ∧ (t = "int" ∨ t = "str" ∨ t = "list") := by
  cases x with
  | int i => cases h; cases r; exact ⟨.int i, .inl rfl⟩
  | str z => cases h; cases r; exact ⟨.str z, .inr (.inl rfl)⟩
  | lst xs => cases h; obtain ⟨p, vs, rfl, hp, _⟩ := r; exact ⟨.lst hp, .inr (.inr rfl)⟩
  | ref p =>
    cases r
    simp only [blt] at h
    split at h
    · rename_i xs e
      cases h
      obtain ⟨vs, hp, _⟩ := R.ob p _ e
      exact ⟨.lst hp, .inr (.inr rfl)⟩
    · cases h
  | _ => cases h
theorem nb_ty {K : PySem.W.Frag} {C : Addr} (h : isNB K C = true) : ((PySem.W.clsIn K C).isSome && PySem.W.typeIn K (.ref C) == some (.type "type")) = true := by
  unfold isNB at h
  unfold PySem.W.clsIn PySem.W.typeIn
  split at h
  · rename_i t dd cd sl e
    obtain ⟨h1, h⟩ := He.ba h
    have ct : t = "type" := by simpa using h1
    subst ct
    simp [e]
  · cases h
theorem sub_blt {K : PySem.W.Frag} {t : String} (C : Addr) (h : t = "int" ∨ t = "str" ∨ t = "list") : PySem.W.subIn K (.type t) (.ref C) = some false := by
  rcases h with rfl | rfl | rfl <;> rfl
theorem kit_blt {K : PySem.W.Frag} {t : String} {C : Addr} (hN : isNB K C = true) (h : t = "int" ∨ t = "str" ∨ t = "list") : PySem.W.kitOne K (.type t) (.ref C) = some false := by
  unfold PySem.W.kitOne
  rw [if_neg (by intro z; cases z)]
  unfold PySem.W.kitCls
  simp only
  rw [if_pos (nb_ty hN)]
  exact sub_blt C h
/-- isinstance(x, C), both answers -/
def bIsCX (cn : Str) : EOL := fun xs eh q => ∃ x, xs = [x, .glo cn] ∧ ((∃ fs, insE eh x = some (cn, fs) ∧ q (.bl true) eh) ∨ ((blt eh x).isSome = true ∧ q (.bl false) eh))
theorem cb_isCX (c : C8.InsC X.K C) (hN : isNB X.K C = true) (hC : X.mg cn = some (.ref C)) : CallR X (.builtin "isinstance") (UL X.K X.mg (bIsCX cn)) := by
  intro pins s σ H xs us Q I r h
  obtain ⟨Hd, eh, ys, q, R, ry, ⟨x, rfl, m⟩, k⟩ := h
  rcases m with ⟨fs, hi, m⟩ | ⟨hb, m⟩
  · exact cb_isC c hC pins s σ H xs us Q I r ⟨Hd, eh, _, q, R, ry, ⟨x, fs, rfl, hi, m⟩, k⟩
  · obtain ⟨v, r', rfl, rx, v2, r2, rfl, r3, e⟩ := ry
    cases e
    obtain ⟨u, hu, r3⟩ := r3
    rw [hC] at hu; cases hu
    obtain rfl : v2 = .ref C := by
      cases v2 with
      | ref b => cases r3; rfl
      | _ => first | (cases r3; done) | (obtain ⟨_, e⟩ := r3; cases e)
    obtain ⟨t, ht⟩ := Option.isSome_iff_exists.mp hb
    obtain ⟨ty, ht⟩ := blt_ty R rx ht
    obtain ⟨u, w', rfl, ru, rw'⟩ := vals2 r
    cases rw'
    exact isinst_ok I ru ty (kit_blt hN ht) fun tk => ⟨.bl false, H, I.tok _, rfl, k eh H (.bl false) _ .refl R rfl m⟩
/-- x == y, x an instance, y of a built-in kind: the own __eq__ -/
def cEqOX (cn : Str) (F : FN) : EO2 := fun x y eh q => ∃ fs, insE eh x = some (cn, fs) ∧ (blt eh y).isSome = true ∧ F xF [x, y] eh q
theorem op_eq_ownX (hC : X.mg cn = some (.ref C)) (hm : Meth X.K C "__eq__" f) (G : FnG X.prog X.w X.K X.mg X.base CX0 k f fd ps (spOf X.K X.mg 2 F)) (ro : RoomG k X.A) (hb : Binds X.K fd ps []) : OpR X (compareOp .Eq) (U2 X.K X.mg (cEqOX cn F)) := by
  intro pins s σ H v u a b Q I r1 r2 ⟨Hd, eh, x, y, q, R, rx, ry, ⟨fs, hx, hy, m⟩, kk⟩
  obtain ⟨p, c, dx, us, rfl, hc, hp, t⟩ := ins_of R rx hx
  rw [hC] at hc; cases hc
  cases r1
  obtain ⟨ty, hty⟩ := Option.isSome_iff_exists.mp hy
  obtain ⟨ty, ht⟩ := blt_ty R ry hty
  obtain ⟨P, Z, hP, _⟩ := kit_of I r2 (.base ty)
  obtain ⟨mA, J, _⟩ := ins_get I.hok hp
  obtain ⟨od, J, _⟩ := J.look
  obtain ⟨m', hF⟩ := I.fr
  refine PySem.W.cmp_K (op := .Eq) ro.r.units0 hF I.ok.mod.kin J (Z.ty _ _ I.kIn hP) (by simp [PySem.W.notFirst, sub_blt _ ht]) hm.at_ hm.fn ?_
  have sp : spOf X.K X.mg 2 F ([.ref p, u] ++ []) H Q E0 :=
    ⟨Hd, eh, [x, y], xF, q, rfl, R, .cons rx (.cons ry .nil), .no, m, fun eh' H' z w s1 R1 r1 e1 => kk eh' H' z w s1 R1 r1 e1⟩
  have rv : Vals ([V.ref p, u] ++ []) ([Value.ref p, b] ++ []) := .cons rfl (.cons r2 .nil)
  refine wpAny_mono (G.here (as := [.ref p, b]) (kw := []) (Q := fun z H' => Q z H') (E := E0) ro (Passes.at pass_any _) I (hb s [.ref p, b] I.kIn (rv.length.symm.trans (G.num _ _ _ _ sp))) rv ?_) (fun z s' hz => ?_) fun _ _ e => e
  · exact sp
  · obtain ⟨w, H', J, rw', q'⟩ := hz
    have : ∀ {v : V} {z : Value}, RelV v z → z ≠ .notImplemented := fun {v z} r e => by
      subst e
      cases v <;> first | (cases r; done) | (obtain ⟨_, e⟩ := r; cases e; done)
    cases z with
    | notImplemented => exact absurd rfl (this rw')
    | _ => exact ⟨w, H', J, rw', q'⟩
end
end VM

/-! VMH0: iterators of lists and tuples that end while an exception is handled; tuples unpacked, comprehensions there. -/
namespace VM
open PySem PySem.Spec PyProof.Rows L2
section
variable {prog : Program} {w : World} {A : Around} {E : Value → Shared → Prop} {s : Shared} {x1 : Addr}
/-- what is left by a StopIteration that is raised while x1 is handled -/
theorem stop_hot {α : Type} {Q : α → Shared → Prop} {m : Sem α} (hot : HotX.HotAt A x1 s.heap)
    (hm : m = (do let e ← newExc (.type "StopIteration") []; raiseNew e))
    (hE : ∀ h' v, (∀ b o, s.heap.get? b = some o → h'.get? b = some o) → Shared.TypeIs { s with heap := h' } v "StopIteration" → E v { s with heap := h' }) : wpAny (model prog w) A m Q E s := by
  subst hm
  obtain ⟨hx, oo, us, e1, d1, c1⟩ := hot
  apply wpAny_bind
  simp only [newExc, newTuple]
  apply wpAny_bind
  apply wpAny_newObj_type _ (by size_fits)
  apply wpAny_bind (m := firstArgMember _ _)
  apply wpAny_of_eq (a := Value.none) (by first | rfl | (simp only [firstArgMember]; rfl))
  apply wpAny_newObj_type _ (by size_fits)
  refine HotX.raiseNew_hot ⟨hx, oo, us, Heap.get?_push_of_some _ (Heap.get?_push_of_some _ e1), d1, c1⟩ (Nat.ne_of_lt (Heap.lt_size (Heap.get?_push_of_some _ e1))) (Heap.get?_push_size _ rfl) rfl (by first | (simp; done) | (simp; omega) | (simp only [Array.size_append]; simp; omega)) ?_
  refine hE _ _ (fun b o e => ?_) ⟨_, Heap.get?_update_self _ (Heap.get?_push_size _ rfl) rfl, rfl⟩
  have e2 := Heap.get?_push_of_some (h := s.heap) { cls := .type "tuple", data := .seq ([] : List Value).toArray } e
  rw [Heap.get?_update_other _ _ (Nat.ne_of_gt (Heap.lt_size (Heap.get?_push_of_some _ e)))]
  exact Heap.get?_push_of_some _ (Heap.get?_push_of_some _ e)
theorem list_end_hot {jt l : Addr} {i : Nat} {xs : Array Value} {Q : Option Value → Shared → Prop} (hot : HotX.HotAt A x1 s.heap) (ne : x1 ≠ jt) (st : s.heap.IsListIter jt l i) (hl : s.heap.IsList l xs) (hx : xs[i]? = none)
    (q : ∀ h', Heap.ExtBut jt s.heap h' → Q none { s with heap := h' }) : wpAny (model prog w) A (pyNext (.ref jt)) Q E s := by
  obtain ⟨oj, hj, cj, dj⟩ := id st
  obtain ⟨ol, hol, _, nl, dl⟩ := hl
  unfold pyNext
  refine wpAny_bind (wpAny_attempt (wpAny_callSpecial?_slot (name := Str.ofString "__next__") st.typeIs slot_listiter_next (wpAny_call_entry slot_listiter_next st.typeIs entry_listiter_next ?_ (args_listiter_next _))))
  show wpAny _ _ (field (.ref jt) 0 >>= _) _ _ s
  apply wpAny_bind (wpAny_field hj dj (x := .ref l) rfl _)
  show wpAny _ _ (if (Value.ref l == Value.none) = true then _ else _) _ _ s
  rw [if_neg (show ¬ ((Value.ref l == Value.none) = true) from Bool.false_ne_true)]
  show wpAny _ _ (field (.ref jt) 1 >>= _) _ _ s
  apply wpAny_bind (wpAny_field hj dj (x := .int i 0) rfl _)
  show wpAny _ _ (seqItems? (.ref l) >>= _) _ _ s
  apply wpAny_bind (wpAny_seqItems hol dl _)
  simp only [Int.toNat_natCast, hx]
  refine wpAny_bind (wpAny_rule (wpAny_bind (wpAny_setField hj dj (by simp) ?nx)))
  obtain ⟨hx1, oo, us, e1, d1, c1⟩ := hot
  have sb := Heap.SameBut.update (h := s.heap) (a := jt) (f := Obj.mapFields (·.setIfInBounds 0 .none))
  refine stop_hot (x1 := x1) ⟨hx1, oo, us, ?_, d1, c1⟩ rfl fun h' v k ty => ?_
  · rw [Heap.get?_update_other _ _ (Ne.symm ne)]; exact e1
  · refine wpAny_bind (wpAny_isInstance (T := "StopIteration") (b := true) ty isSubtype_stop ?_)
    refine wpAny_pure (q _ fun b o nb e => k b o ?_)
    rw [Heap.get?_update_other _ _ (Ne.symm nb)]; exact e
theorem tup_end_hot {jt l : Addr} {i : Nat} {xs : Array Value} {Q : Option Value → Shared → Prop} (hot : HotX.HotAt A x1 s.heap) (ne : x1 ≠ jt) (st : IsTupIter s.heap jt l i) (hl : IsTup s.heap l xs) (hx : xs[i]? = none)
    (q : ∀ h', Heap.ExtBut jt s.heap h' → Q none { s with heap := h' }) : wpAny (model prog w) A (pyNext (.ref jt)) Q E s := by
  obtain ⟨oj, hj, cj, dj⟩ := id st
  obtain ⟨ol, hol, _, nl, dl⟩ := hl
  unfold pyNext
  refine wpAny_bind (wpAny_attempt (wpAny_callSpecial?_slot (name := Str.ofString "__next__") st.typeIs slot_tupleiter_next (wpAny_call_entry slot_tupleiter_next st.typeIs entry_tupleiter_next ?_ (args_tupleiter_next _))))
  show wpAny _ _ (field (.ref jt) 0 >>= _) _ _ s
  apply wpAny_bind (wpAny_field hj dj (x := .ref l) rfl _)
  show wpAny _ _ (if (Value.ref l == Value.none) = true then _ else _) _ _ s
  rw [if_neg (show ¬ ((Value.ref l == Value.none) = true) from Bool.false_ne_true)]
  show wpAny _ _ (field (.ref jt) 1 >>= _) _ _ s
  apply wpAny_bind (wpAny_field hj dj (x := .int i 0) rfl _)
  show wpAny _ _ (seqItems? (.ref l) >>= _) _ _ s
  apply wpAny_bind (wpAny_seqItems hol dl _)
  simp only [Int.toNat_natCast, hx]
  refine wpAny_bind (wpAny_rule (wpAny_bind (wpAny_setField hj dj (by simp) ?nx)))
  obtain ⟨hx1, oo, us, e1, d1, c1⟩ := hot
  have sb := Heap.SameBut.update (h := s.heap) (a := jt) (f := Obj.mapFields (·.setIfInBounds 0 .none))
  refine stop_hot (x1 := x1) ⟨hx1, oo, us, ?_, d1, c1⟩ rfl fun h' v k ty => ?_
  · rw [Heap.get?_update_other _ _ (Ne.symm ne)]; exact e1
  · refine wpAny_bind (wpAny_isInstance (T := "StopIteration") (b := true) ty isSubtype_stop ?_)
    refine wpAny_pure (q _ fun b o nb e => k b o ?_)
    rw [Heap.get?_update_other _ _ (Ne.symm nb)]; exact e
theorem HotAt.keep {h h' : Heap} (hot : HotX.HotAt A x1 h) (k : ∀ o, h.get? x1 = some o → h'.get? x1 = some o) : HotX.HotAt A x1 h' := by
  obtain ⟨a, o, vs, e, d, c⟩ := hot
  exact ⟨a, o, vs, k o e, d, c⟩
theorem unpack_hot {t : Addr} {xs : Array Value} {tgs : List (Bool × (Value → Sem Unit))} {Q : Unit → Shared → Prop} (hot : HotX.HotAt A x1 s.heap) (ht : IsTup s.heap t xs) (hn : tgs.length = xs.size) (hst : tgs.findIdx? (·.1) = none)
    (q : ∀ h', Heap.ExtBut s.heap.objs.size s.heap h' → wpAny (model prog w) A (assignInOrder (tgs.map (·.2)) xs.toList) Q E { s with heap := h' }) : wpAny (model prog w) A (unpack (.ref t) tgs) Q E s := by
  have lt : t ≠ s.heap.objs.size := by obtain ⟨o, ho, _⟩ := ht; exact Nat.ne_of_lt (Heap.lt_size ho)
  have lx : x1 ≠ s.heap.objs.size := by obtain ⟨_, o, _, ho, _⟩ := hot; exact Nat.ne_of_lt (Heap.lt_size ho)
  unfold unpack
  rw [hn, hst]
  refine wpAny_bind (wpAny_holding ?_)
  unfold unpackItems
  refine wpAny_bind ?_
  · unfold notIterableAtAll
    refine wpAny_bind (wpAny_specialOf ht.typeIs slot_tuple_iter.lookup (wpAny_pure ?_))
    simp only [Bool.false_eq_true, if_false]
    refine wpAny_bind (wpAny_holding (iter_tuple ht ?_))
    refine wpAny_bind (wpAny_holding (draw_tuple lt xs.size 0 _ _ ⟨_, Heap.get?_push_size _ rfl, rfl, rfl⟩ (ht.push _) (by omega) fun g1 st1 sb1 => ?_))
    have whole : (xs.toList.drop 0).take xs.size = xs.toList := by rw [List.drop_zero]; exact List.take_of_length_le (by simp)
    rw [whole, if_neg (by simp)]
    have old : ∀ b o, b ≠ s.heap.objs.size → s.heap.get? b = some o → g1.get? b = some o := fun b o nb e => sb1.extBut b o nb (Heap.get?_push_of_some _ e)
    have hot1 : HotX.HotAt A x1 g1 := HotAt.keep hot fun o e => old x1 o lx e
    refine wpAny_bind (wpAny_holding (tup_end_hot (s := { s with heap := g1 }) hot1 lx st1 ((ht.push _).extBut sb1.extBut lt) (by simp) fun g2 eb => ?_))
    simp only [Option.isSome_none, Bool.false_eq_true, if_false]
    exact wpAny_pure (q g2 fun b o nb e => eb b o nb (old b o nb e))
theorem assign_hot {env : Env} {elts : List Expr} {kk : Nat} {pos : Pos} {t : Addr} {xs : Array Value} {Q : Unit → Shared → Prop} (hot : HotX.HotAt A x1 s.heap) (ht : IsTup s.heap t xs) (hn : (assignEach elts env).length = xs.size) (hst : (assignEach elts env).findIdx? (·.1) = none)
    (q : ∀ h', Heap.ExtBut s.heap.objs.size s.heap h' → wpAny (model prog w) A (assignInOrder ((assignEach elts env).map (·.2)) xs.toList) Q E { s with heap := h' }) : wpAny (model prog w) A (assign (.Tuple elts kk pos) env (.ref t)) Q E s := by
  rw [assign_Tuple]
  exact wpAny_bind (wpAny_standAt (unpack_hot hot ht hn hst q))
end
end VM

/-! VMH1: what runs while an exception is handled whose object is tracked: targets, comprehensions over lists, calls of defs. -/
namespace VM
open PySem PySem.Spec PyProof.Rows L2
/-- the exception at a is tracked -/
def HotE (a : Addr) (H : Hp) : Prop := ∃ cls d, H a = some (exh a cls d)
section
variable {X : Cx} {pins : List (Addr × Obj)} {σ : L2.St} {H : Hp} {s : Shared} {a : Addr}
theorem hot_of (hA : X.A.handled = some (.ref a)) (I : Inv X pins σ H s) (h : HotE a H) : HotX.HotAt X.A a s.heap := by
  obtain ⟨cls, d, e⟩ := h
  obtain ⟨⟨oe, vs, e1, z, e2⟩, _⟩ := (show ObjOk X.prog X.w H s.heap a (exh a cls d) from I.hok a _ e)
  exact ⟨hA, oe, vs, e1, e2, z.2.2 vs e2⟩
theorem HotE.ne {b : Addr} (h : HotE a H) (n : H b = none) : a ≠ b := fun z => by
  obtain ⟨_, _, e⟩ := h
  rw [z, n] at e; cases e
/-- a tuple of targets -/
def gTupH (K : PySem.W.Frag) (a : Addr) (n : Nat) (t : TGs) : TG := fun v σ H Q => HotE a H ∧ gTup K n t v σ H Q
theorem pg_tupH {es : List Expr} {kk : Nat} {pos : Pos} {t : TGs} {n : Nat} (hA : X.A.handled = some (.ref a)) (h : PGs X es t) (hn : (assignEach es X.env).length = n := by rfl) (hst : (assignEach es X.env).findIdx? (·.1) = none := by rfl) : PG X (.Tuple es kk pos) (gTupH X.K a n t) := by
  constructor
  intro pins s σ H v u Q I r ⟨hot, b, xs, ev, sq, hl, w⟩
  subst ev
  cases r
  obtain ⟨its, rv, tp, _⟩ := I.tuple sq
  apply assign_hot (hot_of hA I hot) tp (by rw [hn, ← hl, rv.length]; simp) hst
  intro h' eb
  have J : Inv X pins σ H { s with heap := h' } := I.kept (t' := s.toks) fun c o e => eb c o (Nat.ne_of_lt (Heap.lt_size e)) e
  exact h.run pins _ σ H xs _ Q J (by simpa using rv) w
/-- a comprehension over a list: its items xs stay -/
def tLcH (K : PySem.W.Frag) (a : Addr) (tl : TE) (g : TG) (tt : TT) (te : TE) (vs : List Nat) : TE := fun σ H Q => tl σ H fun x H1 => ∃ l xs, x = .ref l ∧ SqL K H1 l xs ∧ ∀ D, H1 D = none → ∃ W : Nat → Hp → Prop, W 0 (upd H1 D (.lst [])) ∧ ∀ i H2, W i H2 → SqL K H2 l xs ∧
  ((xs.length ≤ i ∧ HotE a H2 ∧ Q (.ref D) H2) ∨ ∃ y, xs[i]? = some y ∧ g y (wipe σ vs) H2 fun σ3 H3 => wipe σ3 vs = wipe σ vs ∧ tt σ3 H3 fun b H4 =>
    if b = true then te σ3 H4 fun z H5 => ∃ acc, H5 D = some (.lst acc) ∧ acc.length < sizeLine ∧ W (i + 1) (upd H5 D (.lst (acc ++ [z]))) else W (i + 1) H4)
theorem lc_hot {elt tg iter : Expr} {ifs : List Expr} {scope : Scope} {own : List (Str × Nat)} {pos pos' : Pos} {tl : TE} {g : TG} {tt : TT} {te : TE} {use : Option (Value → Sem Unit)} {Qf : Value → Shared → Prop} {Q : VK} (hA : X.A.handled = some (.ref a)) (hN : X.N.Nodup) (hi : PE X iter tl) (ok : BlkOk X.N X.env.scope scope own)
    (hg : ∀ s H C cl fp, PG (X.blk s H scope (compEnvC scope cl C X.env) fp) tg g) (ht : ∀ s H C cl fp, PTs (X.blk s H scope (compEnvC scope cl C X.env) fp) ifs tt)
    (he : ∀ s H C cl fp, PE (X.blk s H scope (compEnvC scope cl C X.env) fp) elt te) (hs : ∀ x, foldedSetIterable iter X.env x = pure x) (I : Inv X pins σ H s) (w : tLcH X.K a tl g tt te (own.map (·.2)) σ H Q)
    (fin : ∀ D C t m G, Inv X pins σ G t → Q (.ref D) G → t.heap.Ns C m → FpOk X pins G C → compPost (model X.prog X.w) X.A X.xe use Qf (.ref D) C (.ok .next) t) :
    wpAny (model X.prog X.w) X.A (comprehension (.ListComp elt [⟨tg, iter, ifs, 0⟩] scope pos) scope X.env pos' (newList []) false (eval iter X.env) use) Qf X.xe s := by
  have clo : ∀ y ∈ scope.names, y.2 = .free → ∃ c, X.env.cells.lookup y.1 = some c := fun y hy e => I.ok.has _ (ok.free y hy e)
  refine wpAny_comprehension_free (use := use) rfl hs (closure_ok clo) ok.kind (fun y hy e => by rw [ok.uniq y hy, e]) (thn (hi.run pins s σ H _ I w) fun lv s1 ⟨x, H1, I1, r1, l, xs, ex, sq, w1⟩ => ?_)
  subst ex
  cases r1
  obtain ⟨its, rv, pl, hz⟩ := I1.list sq
  refine wpAny_pyIter_list pl.isList ?_
  -- the iterator, then the new list
  generalize hJ : s1.heap.objs.size = jt
  have st1 : Heap.IsListIter (s1.heap.push { cls := .type "list_iterator", data := .fields #[.ref l, .int 0 0] }) jt l 0 := ⟨_, by rw [← hJ]; exact Heap.get?_push_size _ rfl, rfl, rfl⟩
  generalize hg1 : s1.heap.push { cls := .type "list_iterator", data := .fields #[.ref l, .int 0 0] } = g1 at st1
  have k1 : ∀ b o, s1.heap.get? b = some o → g1.get? b = some o := fun b o e => by rw [← hg1]; exact Heap.get?_push_of_some _ e
  have I2 : Inv X pins σ H1 { s1 with heap := g1 } := I1.kept (t' := s1.toks) k1
  have fj : FpOk X pins H1 jt := I1.fpOk (Nat.le_of_eq hJ) (I1.hok.fresh (Nat.le_of_eq hJ))
  have ltj : jt < g1.objs.size := by obtain ⟨o, e, _⟩ := st1; exact Heap.lt_size e
  refine wpAny_newObj_type (newEnv_comp ?_) (by show 0 ≤ sizeLine; decide)
  dsimp only
  generalize hD : g1.objs.size = D at ltj ⊢
  have nD : H1 D = none := I2.hok.fresh (Nat.le_of_eq hD)
  obtain ⟨W, w0, wk⟩ := w1 D nD
  have k2 : ∀ b o, g1.get? b = some o → (g1.push { cls := .type "list", data := .seq ([] : List Value).toArray }).get? b = some o := fun b o e => Heap.get?_push_of_some _ e
  have I3 : Inv X pins σ (upd H1 D (.lst [])) { s1 with heap := g1.push { cls := .type "list", data := .seq ([] : List Value).toArray } } :=
    I2.laid (t' := s1.toks) k2 (Nat.le_of_eq hD) ⟨Nat.zero_le _, [], 0, .nil, by rw [← hD]; exact Heap.get?_push_size _ rfl⟩
  have sz2 : (g1.push { cls := .type "list", data := .seq ([] : List Value).toArray }).objs.size = D + 1 := by rw [Heap.size_push, hD]
  have st2 : Heap.IsListIter (g1.push { cls := .type "list", data := .seq ([] : List Value).toArray }) jt l 0 := by obtain ⟨o, e, c, d⟩ := st1; exact ⟨o, k2 _ o e, c, d⟩
  generalize g1.push { cls := .type "list", data := .seq ([] : List Value).toArray } = g2 at I3 sz2 st2 ⊢
  have neD : jt ≠ D := Nat.ne_of_lt ltj
  have f3 : FpOk X pins (upd H1 D (.lst [])) jt := ⟨by rw [upd_ne neD]; exact fj.1, fj.2⟩
  have I4 := block_start (fp := [jt]) I3 ok hN fun b hb => by
    rw [List.mem_singleton.mp hb]
    exact ⟨f3, by show jt < g2.objs.size; rw [sz2]; exact Nat.lt_succ_of_lt ltj⟩
  have pg := hg { s1 with heap := g2 } (upd H1 D (.lst [])) g2.objs.size (cellsFrom (g2.objs.size + 1) scope.names (cloFrom X.env.cells scope.names [])) [jt]
  have pt := ht { s1 with heap := g2 } (upd H1 D (.lst [])) g2.objs.size (cellsFrom (g2.objs.size + 1) scope.names (cloFrom X.env.cells scope.names [])) [jt]
  have pe := he { s1 with heap := g2 } (upd H1 D (.lst [])) g2.objs.size (cellsFrom (g2.objs.size + 1) scope.names (cloFrom X.env.cells scope.names [])) [jt]
  have cL : (compEnvC scope (cellsFrom (g2.objs.size + 1) scope.names (cloFrom X.env.cells scope.names [])) g2.objs.size X.env).locals = g2.objs.size := rfl
  show codeAny _ _ (.compStart (.ListComp elt [⟨tg, iter, ifs, 0⟩] scope pos) 0 (.ref jt) (.ref D) (compEnvC scope (cellsFrom (g2.objs.size + 1) scope.names (cloFrom X.env.cells scope.names [])) g2.objs.size X.env)) (compPost (model X.prog X.w) X.A X.xe use Qf (.ref D) g2.objs.size) _
  dsimp only at I4
  generalize hce : compEnvC scope (cellsFrom (g2.objs.size + 1) scope.names (cloFrom X.env.cells scope.names [])) g2.objs.size X.env = ce at I4 pg pt pe cL ⊢
  have st4 : Heap.IsListIter (pushCells (g2.push { cls := .type "dict", data := .dict #[] }) scope.names) jt l 0 := by
    obtain ⟨o, e, c, d⟩ := st2
    exact ⟨o, pushCells_keeps _ _ _ _ (Heap.get?_push_of_some _ e), c, d⟩
  generalize pushCells (g2.push { cls := .type "dict", data := .dict #[] }) scope.names = g4 at I4 st4 ⊢
  generalize hH3 : upd H1 D (.lst []) = H3 at I3 I4 pg pt pe w0 f3
  have foot : ∀ {τ : L2.St} {G : Hp} {t : Shared}, Inv (X.blk { s1 with heap := g2 } H3 scope ce [jt]) [] τ G t → G jt = none → ∀ b ∈ [jt], FpOk (X.blk { s1 with heap := g2 } H3 scope ce [jt]) [] G b := fun {τ G t} J n b hb => by
    obtain rfl := List.mem_singleton.mp hb
    exact ⟨n, (J.ok.exf b (by simp)).1, J.ok.exfs b (by simp), .inl (by simp), fun x c e => (J.ok.exf b (by simp)).2 x c e, fun p hp => absurd (show p ∈ ([] : List (Addr × Obj)) ++ [] from hp) (by simp)⟩
  have loop : codeAny (model X.prog X.w) X.A (.compLoop (.ListComp elt [⟨tg, iter, ifs, 0⟩] scope pos) 0 (.ref jt) (.ref D) ce) (compPost (model X.prog X.w) X.A X.xe use Qf (.ref D) g2.objs.size) { s1 with heap := g4 } := by
    refine compLoop_any (fun n t => ∃ i G, n = xs.length - i ∧ Inv (X.blk { s1 with heap := g2 } H3 scope ce [jt]) [] (wipe σ (own.map (·.2))) G t ∧ t.heap.IsListIter jt l i ∧ G jt = none ∧ W i G) ?_ _ ⟨0, H3, rfl, I4, st4, f3.1, w0⟩
    rintro n t ⟨i, G, en, J, stt, nj, wi⟩
    obtain ⟨sq2, wi⟩ := wk i G wi
    obtain ⟨its2, rv2, pl2, _⟩ := J.list sq2
    have ll := rv2.length
    rcases wi with ⟨hle, hot, hq⟩ | ⟨y, hy, step⟩
    · refine list_end_hot (hot_of (X := X.blk { s1 with heap := g2 } H3 scope ce [jt]) hA J hot) (hot.ne nj) stt pl2.isList (by simp; omega) fun h' eb => ?_
      obtain ⟨f0, f1, f2, f5, f6, f7⟩ := foot J nj jt (by simp)
      have J2 : Inv (X.blk { s1 with heap := g2 } H3 scope ce [jt]) [] (wipe σ (own.map (·.2))) G { t with heap := h' } := J.turned (t' := t.toks) (fun b o nb e => eb b o nb e) f0 f1 f5 f6 f7
      have J3 : Inv X pins σ G { t with heap := h' } := I3.call' (ch := [jt]) J2.os J2.base J2.hok J2.bare fun b hb => by
        rw [List.mem_singleton.mp hb]
        exact ⟨f3.2.2.2.1, f3.2.1, f3.2.2.2.2.1, f3.2.2.2.2.2⟩
      obtain ⟨m, hn, _⟩ := J2.loc
      have hn : h'.Ns ce.locals m := hn
      have nC : G ce.locals = none := J2.free
      rw [cL] at hn nC
      exact fin D g2.objs.size { t with heap := h' } m G J3 hq hn (I3.fpOk (Nat.le_refl _) nC)
    · obtain ⟨u, hu, ru⟩ := rv2.get hy
      refine wpAny_pyNext_list_item stt pl2.isList (x := u) (by simpa using hu) fun h' st' sb => ?_
      obtain ⟨f0, f1, f2, f5, f6, f7⟩ := foot J nj jt (by simp)
      have J2 : Inv (X.blk { s1 with heap := g2 } H3 scope ce [jt]) [] (wipe σ (own.map (·.2))) G { t with heap := h' } := J.turned (t' := t.toks) (fun b o nb e => (sb.2 b nb).trans e) f0 f1 f5 f6 f7
      obtain ⟨oj, ej, cj, dj⟩ := id st'
      refine go_of (s := { t with heap := h' }) ej cj dj (by decide) ?_
      have J3 := J2.pinned (foot J2 nj) fun b hb => by
        rw [List.mem_singleton.mp hb]
        exact ⟨oj, ej, fun v z => by rw [dj] at z; cases z⟩
      refine thnF (pg.run _ _ _ G y u _ J3 ru step) fun _ t2 ⟨τ, G2, J4, ew, q2⟩ => ?_
      refine thnF (pt.run _ t2 τ G2 _ J4 q2) fun b t3 ⟨G3, J5, q3⟩ => ?_
      have back : ∀ {t' : Shared} {G' : Hp}, Inv (X.blk { s1 with heap := g2 } H3 scope ce [jt]) ([] ++ pinsAt [jt] h') τ G' t' → W (i + 1) G' → ∃ n', n' < n ∧ ∃ i' G'', n' = xs.length - i' ∧ Inv (X.blk { s1 with heap := g2 } H3 scope ce [jt]) [] (wipe σ (own.map (·.2))) G'' t' ∧ t'.heap.IsListIter jt l i' ∧ G'' jt = none ∧ W i' G'' := fun {t' G'} L w' => by
        have pz := L.pin (jt, oj) (List.mem_append_right _ (List.mem_append_right _ (mem_pinsAt (by simp) ej)))
        have hlen : i < xs.length := (List.getElem?_eq_some_iff.mp hy).1
        refine ⟨xs.length - (i + 1), by omega, i + 1, G', rfl, (L.unpinned (pins := [])).weak (by rw [← ew, wipe_length]) (fun k v e => ?_), ⟨oj, pz.1, cj, dj⟩, pz.2.1, w'⟩
        rw [← ew] at e
        exact (wipe_some e).1
      cases b with
      | false =>
        simp only [Bool.false_eq_true, if_false] at q3 ⊢
        exact back J5 q3
      | true =>
        simp only [if_true] at q3 ⊢
        refine thnF (pe.run _ t3 τ G3 _ J5 q3) fun z t4 ⟨yv, G4, J6, r6, acc, eD, hz2, w'⟩ => ?_
        exact app_ok (X := X.blk { s1 with heap := g2 } H3 scope ce [jt]) J6 eD hz2 r6 fun t5 J7 => back J7 w'
  exact codeAny_compStart_list loop (wpAny_pyIter_listiter st4 loop)
theorem pe_lcH {elt tg iter : Expr} {ifs : List Expr} {scope : Scope} {own : List (Str × Nat)} {pos : Pos} {tl : TE} {g : TG} {tt : TT} {te : TE} (hA : X.A.handled = some (.ref a)) (hN : X.N.Nodup) (hi : PE X iter tl) (ok : BlkOk X.N X.env.scope scope own)
    (hg : ∀ s H C cl fp, PG (X.blk s H scope (compEnvC scope cl C X.env) fp) tg g) (ht : ∀ s H C cl fp, PTs (X.blk s H scope (compEnvC scope cl C X.env) fp) ifs tt)
    (he : ∀ s H C cl fp, PE (X.blk s H scope (compEnvC scope cl C X.env) fp) elt te) (hs : ∀ x, foldedSetIterable iter X.env x = pure x := by intro _; rfl) :
    PE X (.ListComp elt [⟨tg, iter, ifs, 0⟩] scope pos) (tLcH X.K a tl g tt te (own.map (·.2))) := by
  constructor
  intro pins s σ H Q I w
  rw [eval_ListComp]
  refine lc_hot hA hN hi ok hg ht he hs I w fun D C t m G J q hn ⟨p0, p1, p2, p3, p4, p5⟩ => ⟨m, hn, fun h'' sb => ?_⟩
  exact ⟨.ref D, G, J.turned (t' := t.toks) (fun b o nb e => (sb.2 b nb).trans e) p0 p1 p3 p4 p5, rfl, q⟩
/-- name = [..] on one line -/
theorem ps_setLcH {i : Nat} {y : Str} {py : Pos} {elt tg iter : Expr} {ifs : List Expr} {scope : Scope} {own : List (Str × Nat)} {pos spos : Pos} {tl : TE} {g : TG} {tt : TT} {te : TE} (hA : X.A.handled = some (.ref a)) (hN : X.N.Nodup) (hy : X.N[i]? = some y) (hyl : X.env.scope.names.lookup y = some .local)
    (hsw : swapsWith (.ListComp elt [⟨tg, iter, ifs, 0⟩] scope pos) (some (.Name y py)) spos.line X.env = pure true) (hi : PE X iter tl) (ok : BlkOk X.N X.env.scope scope own)
    (hg : ∀ s H C cl fp, PG (X.blk s H scope (compEnvC scope cl C X.env) fp) tg g) (ht : ∀ s H C cl fp, PTs (X.blk s H scope (compEnvC scope cl C X.env) fp) ifs tt)
    (he : ∀ s H C cl fp, PE (X.blk s H scope (compEnvC scope cl C X.env) fp) elt te) (hs : ∀ x, foldedSetIterable iter X.env x = pure x := by intro _; rfl) :
    PS X (.Assign [.Name y py] (.ListComp elt [⟨tg, iter, ifs, 0⟩] scope pos) spos) (tAsg (tLcH X.K a tl g tt te (own.map (·.2))) (gName i)) := by
  constructor
  intro pins s σ H D I w
  rw [exec_Assign_Name_used _ _ _ _ hsw]
  apply wpAny_bind
  apply wpAny_standAt
  apply wpAny_bind
  show wpAny _ X.A (do let _ ← comprehension (.ListComp elt [⟨tg, iter, ifs, 0⟩] scope pos) scope X.env (firstIterPos [⟨tg, iter, ifs, 0⟩] pos) (newList []) false (eval iter X.env) (some (assign (.Name y py) X.env))) _ _ s
  have w : tLcH X.K a tl g tt te (own.map (·.2)) σ H (fun x H1 => gName i x σ H1 D.nx) := w
  refine wpAny_bind (thn (lc_hot (Qf := fun _ t => SP X pins D .next t) hA hN hi ok hg ht he hs I w fun L C t m G J q hn ⟨p0, p1, p2, p3, p4, p5⟩ => ?_) fun _ t hq => wpAny_pure (wpAny_pure hq))
  show wpAny _ _ (assign (.Name y py) X.env (.ref L)) _ _ _
  apply wpAny_assign_Name
  refine store_ok2 (v := V.ref L) J hN hy (.inl hyl) rfl (fun t2 J2 ⟨b, sb, hb⟩ => ?_) (.inr hyl)
  have nb : C ≠ b := hb.elim (fun z => by rw [z]; exact p1) fun z e => p4 y b z e.symm
  exact ⟨m, hn.sameBut sb nb, fun h3 sb3 => ⟨_, G, J2.turned (t' := t2.toks) (fun c o nc e => (sb3.2 c nc).trans e) p0 p1 p3 p4 p5, q⟩⟩
end
end VM

/-! VMH2: the same by values: comprehensions over frozen lists, defs called while the exception .exa a C x is handled, except suites whose exception is named by its address. -/
namespace VM
open PySem PySem.Spec PyProof.Rows L2
/-! ### targets -/
def UGH (K : PySem.W.Frag) (mg : Str → Option Value) (a : Addr) (t : Tg) : TG := fun v σ H Q => HotE a H ∧ UG K mg t v σ H Q
section
variable {X : Cx} {a : Addr} {pos : Pos}
theorem rg_plH {e : Expr} {t : Tg} (h : PG X e (UG X.K X.mg t)) : PG X e (UGH X.K X.mg a t) := PG.imp h fun v σ H Q w => w.2
theorem rg_tpH {es : List Expr} {kk : Nat} {ts : List Tg} (hA : X.A.handled = some (.ref a)) (h : PGs X es (UGs X.K X.mg ts)) (hn : (assignEach es X.env).length = ts.length := by rfl) (hst : (assignEach es X.env).findIdx? (·.1) = none := by rfl) : PG X (.Tuple es kk pos) (UGH X.K X.mg a (.tp ts)) :=
  PG.imp (pg_tupH hA h hn hst) fun v σ H Q ⟨hot, Hd, es, eh, x, es', R, r, e, k⟩ => by
    cases x with
    | tup xs =>
      obtain ⟨b, vs, rfl, ht, r⟩ := r
      exact ⟨hot, b, vs, rfl, ht, by rw [← r.length, asgL_length e], Hd, es, eh, xs, es', R, r, e, k⟩
    | _ => simp [asg] at e
end
/-! ### comprehensions -/
def mCompH (a : Addr) (ml : ME) (g : Tg) (tt : MT) (te : ME) (vs : List Nat) : ME := fun xc (es : Es) eh q => (∃ (i : Nat) (C : Str) (x : EV), es[i]? = some (some (EV.exa a C x))) ∧ ml xc es eh fun y eh1 => ∃ xs, y = .lst xs ∧ compL g tt te vs (fun _ => True) q xs [] es eh1
section
variable {K : PySem.W.Frag} {mg : Str → Option Value} {E : XK}
theorem lc_liftH {a : Addr} {ml : ME} {g : Tg} {tt : MT} {te : ME} {vs : List Nat} (hv : ∀ i ∈ slots g, i ∈ vs) : ∀ σ H Q, U K mg E (mCompH a ml g tt te vs) σ H Q → tLcH K a (U K mg E ml) (UGH K mg a g) (UT K mg E0 tt) (U K mg E0 te) vs σ H Q := by
  rintro σ H Q ⟨Hd, es, eh, xc, q, R, xo, ⟨⟨i0, C0, x0, hx0⟩, m⟩, k⟩
  refine ⟨Hd, es, eh, xc, _, R, xo, m, fun ehA HA y v sA RA rA ⟨xs, ey, mA⟩ => ?_⟩
  subst ey
  obtain ⟨l, ws, rfl, hl, nn, rl⟩ := rA
  obtain ⟨v0, _, r0⟩ := R.loc i0 _ hx0
  have r0 := r0.step sA
  refine ⟨l, ws, rfl, .inl (.inl hl), fun D hD => ?_⟩
  have hh : ∀ b, (Hd b ∨ b = D) → Hd b ∨ HA b = none := fun b z => z.elim .inl fun z => .inr (z ▸ hD)
  have RlA := R.step sA RA
  have hlen := rl.length
  refine ⟨fun i G => ∃ eh acc va, Step ehA HA eh G ∧ Rh K mg (fun b => Hd b ∨ b = D) eh G ∧ G D = some (.lst va) ∧ RpL K mg (fun b => Hd b ∨ b = D) eh G acc va ∧ compL g tt te vs (fun _ => True) q (xs.drop i) acc es eh,
    ⟨ehA, [], [], .newF hD, hide RA hD, upd_same, .nil, by simpa using mA⟩, ?_⟩
  rintro i G ⟨eh, acc, va, s1, R1, eD, rA, f⟩
  have hlG := (s1.st l _ hl nn.1 (fun _ z => nomatch z)).1
  obtain ⟨a', c, d, u, ⟨_, ea⟩, _, hex, _⟩ := r0.step s1
  have hot : HotE a G := ⟨_, _, by rw [ea]; exact hex⟩
  refine ⟨.inl (.inl hlG), ?_⟩
  have nD := (R1.hd D (.inr rfl)).2
  cases hd : xs.drop i with
  | nil =>
    rw [hd] at f
    have hi : xs.length ≤ i := by simpa using hd
    exact .inl ⟨by omega, hot, k eh G (.lst acc) (.ref D) (sA.trans s1) (R1.less fun _ z => .inl z) ⟨D, va, rfl, eD, ⟨nD, RA.notHid hD⟩, rA.hid fun _ z => .inl (.inl z)⟩ f.2⟩
  | cons x r =>
    rw [hd] at f
    obtain ⟨hx, hr, hlt⟩ := drop_cons hd
    obtain ⟨_, es', easg, f⟩ := f
    obtain ⟨w, hw, rx⟩ := rl.get hx
    have r2 : Rp K mg (fun b => Hd b ∨ b = D) eh G x w := (Rp.hid hh rx).step s1
    have Rs : Rl K mg (fun b => Hd b ∨ b = D) eh G es σ := RlA.hid hh s1 R1
    refine .inr ⟨w, hw, hot, _, wipeE es vs, eh, x, es', Rs.wipe vs, r2, easg, fun σ3 R3 l3 s3 => ⟨?_, _, es', eh, xF, _, R3, .no, f, fun eh4 H4 b s4 R4 f4 => ?_⟩⟩
    · exact (wipe_same (σ := wipe σ vs) l3 fun i hi => s3 i fun z => hi (hv i z)).trans wipe_wipe
    · have e4 := s4.st D _ eD nD (fun _ z => nomatch z)
      cases b with
      | true =>
        refine iteT ⟨_, es', eh4, xF, _, R3.step s4 R4, .no, f4, fun eh5 H5 y v s5 R5 r5 ⟨hsz, f5⟩ => ?_⟩
        have e5 := s5.st D _ e4.1 e4.2 (fun _ z => nomatch z)
        refine ⟨va, e5.1, by rw [← rA.length]; exact hsz, eh5, acc ++ [y], va ++ [v], (s1.trans (s4.trans s5)).over hD, R5.hw (.inr rfl) e5.1 _, upd_same, ?_, by rw [hr]; exact f5⟩
        exact RpL.hw (.inr rfl) e5.1 _ ((rA.step (s4.trans s5)).append (.one r5))
      | false => exact iteF ⟨eh4, acc, va, s1.trans s4, R4, e4.1, rA.step s4, by rw [hr]; exact f4⟩
end
section
variable {X : Cx} {E : XK} {a : Addr} {elt tg iter : Expr} {ifs : List Expr} {scope : Scope} {own : List (Str × Nat)} {pos py spos : Pos} {ml : ME} {g : Tg} {tt : MT} {te : ME}
theorem re_compH (hA : X.A.handled = some (.ref a)) (hN : X.N.Nodup) (hi : PE X iter (U X.K X.mg E ml)) (ok : BlkOk X.N X.env.scope scope own)
    (hg : ∀ s H C cl fp, PG (X.blk s H scope (compEnvC scope cl C X.env) fp) tg (UGH X.K X.mg a g)) (ht : ∀ s H C cl fp, PTs (X.blk s H scope (compEnvC scope cl C X.env) fp) ifs (UT X.K X.mg E0 tt))
    (he : ∀ s H C cl fp, PE (X.blk s H scope (compEnvC scope cl C X.env) fp) elt (U X.K X.mg E0 te)) (hv : ∀ i ∈ slots g, i ∈ own.map (·.2) := by decide) (hs : ∀ x, foldedSetIterable iter X.env x = pure x := by intro _; rfl) :
    PE X (.ListComp elt [⟨tg, iter, ifs, 0⟩] scope pos) (U X.K X.mg E (mCompH a ml g tt te (own.map (·.2)))) := PE.imp (pe_lcH hA hN hi ok hg ht he hs) (lc_liftH hv)
theorem rs_setCompH {i : Nat} {y : Str} (hA : X.A.handled = some (.ref a)) (hN : X.N.Nodup) (hsw : swapsWith (.ListComp elt [⟨tg, iter, ifs, 0⟩] scope pos) (some (.Name y py)) spos.line X.env = pure true) (hi : PE X iter (U X.K X.mg E ml)) (ok : BlkOk X.N X.env.scope scope own)
    (hg : ∀ s H C cl fp, PG (X.blk s H scope (compEnvC scope cl C X.env) fp) tg (UGH X.K X.mg a g)) (ht : ∀ s H C cl fp, PTs (X.blk s H scope (compEnvC scope cl C X.env) fp) ifs (UT X.K X.mg E0 tt))
    (he : ∀ s H C cl fp, PE (X.blk s H scope (compEnvC scope cl C X.env) fp) elt (U X.K X.mg E0 te)) (hy : X.N[i]? = some y := by rfl) (hyl : X.env.scope.names.lookup y = some .local := by rfl) (hv : ∀ i ∈ slots g, i ∈ own.map (·.2) := by decide) (hs : ∀ x, foldedSetIterable iter X.env x = pure x := by intro _; rfl) :
    PS X (.Assign [.Name y py] (.ListComp elt [⟨tg, iter, ifs, 0⟩] scope pos) spos) (US X.K X.mg E (sSet i (mCompH a ml g tt te (own.map (·.2))))) := PS.imp (ps_setLcH hA hN hy hyl hsw hi ok hg ht he hs) (asg_lift (lc_liftH hv))
end
/-! ### defs called while the exception at a is handled -/
structure RoomH (k : Nat) (A : Around) : Prop where
  dp : A.depth + 3 * k + 5 < recursionLimit
  un : A.units + 16 * k + 200 < cLine
theorem RoomH.mono {i k : Nat} {A : Around} (r : RoomH k A) (l : i ≤ k) : RoomH i A := ⟨by have := r.dp; omega, by have := r.un; omega⟩
theorem RoomH.deeper {k : Nat} {A : Around} (r : RoomH (k + 1) A) (v : Env) : RoomH k (A.deeper v) := ⟨by have := r.dp; show A.depth + 1 + 3 * k + 5 < _; omega, by have := r.un; show A.units + 3 + 16 * k + 200 < _; omega⟩
theorem roomH_suite {k : Nat} {A : Around} (r : RoomG k A) (h : Option Value) : RoomH k (A.mark h) := ⟨r.r.dp, r.r.un⟩
def cool (A : Around) : Around := { A with handled := none }
structure FnGH (P : Program) (w : World) (K : PySem.W.Frag) (mg : Str → Option Value) (B : Heap) (k : Nat) (f : Addr) (fd : FuncData) (ps : List Str) (sp : Addr → Sp) : Prop where
  num : ∀ a xs H Q E, sp a xs H Q E → xs.length = ps.length
  go : ∀ {a : Addr} {A : Around} {fr : List Env} {s : Shared} {H : Hp} {ar : Args} {as : List Value} {xs : List V} {Q : VK}, A.handled = some (.ref a) → RoomH k A → Env0 P w K mg B A fr s H → BindsTo s fd ar (ps.zip as) → Vals xs as → sp a xs H Q (fun _ _ _ => False) →
    codeAny (model P w) A (.call (.ref f) ar) (CR CX0 fr P w H s Q (fun _ _ _ => False)) s
/-- the context of such a def's body -/
abbrev hotCx (P : Program) (w : World) (K : PySem.W.Frag) (mg : Str → Option Value) (B : Heap) (N : List Str) (qual : Str) (scope : Scope) (f : Addr) (cd : Value) (A : Around) (fr : List Env) (s : Shared) (H : Hp) (a : Addr) : Cx :=
  (cxOf CX0 P w K mg B N qual scope f cd (cool A) fr s H (fun _ _ _ => False)).suite a []
section
variable {P : Program} {w : World} {K : PySem.W.Frag} {mg : Str → Option Value} {B : Heap} {k : Nat} {f : Addr} {fd : FuncData} {N ps : List Str} {z qual : Str} {params : Arguments} {body : List Stmt} {scope : Scope} {dvs : List V} {kws : List (Str × V)} {ms : Addr → MS}
theorem fn_okH (D : FunD K z qual params body scope dvs kws f fd) (S : FnScope N ps scope)
    (bd : ∀ (cd : Value) (A : Around) (fr : List Env) (s : Shared) (H : Hp) (a : Addr), PSs (hotCx P w K mg B N qual scope f cd A fr s H a) body (US K mg (fun _ _ _ => False) (ms a))) :
    FnGH P w K mg B (k + 1) f fd ps (fun a => spOf K mg ps.length (fnOf N.length (ms a))) := by
  obtain ⟨oc, od, dV, kV, doc, pm, an, cd, ct, osl, efd, lk, hc, _, _⟩ := D.ex
  refine ⟨fun a vs H Q E h => h.choose_spec.choose_spec.choose_spec.choose_spec.choose_spec.1, ?_⟩
  intro a A fr s H ar as xs Q hA ro e0 hb rv hs
  have kp : ∀ b o, B.get? b = some o → s.heap.get? b = some o := fun b o e => (e0.bs b o e).1
  have kin : K.In s.heap := e0.mod.kin.keeps kp
  subst efd
  have num := hs.choose_spec.choose_spec.choose_spec.choose_spec.choose_spec.1
  have par : ∀ y ∈ ps.zip as, scope.names.lookup y.1 = some .local ∨ (scope.names.lookup y.1 = some .cell ∧ ((cellsFrom (s.heap.objs.size + 1) scope.names []).lookup y.1).isSome = true) := by
    rintro ⟨y, v⟩ hy
    exact (S.par y (List.of_mem_zip hy).1).imp id fun q => ⟨q, PySem.W.cellsFrom_some _ _ _ (.inl q)⟩
  apply codeAny_call_function (by have := ro.dp; omega) (kin f _ lk) rfl S.co S.gen rfl (PySem.W.codeRec_of kin hc)
  apply hb
  apply wpAny_newFunctionEnv_cells S.kind par
  intro env he s1 x
  subst he
  have e1 : Env0 P w K mg B (cool A) fr s H := ⟨e0.frames, e0.mod, e0.bs, e0.bsz, e0.funs, e0.frf, e0.hok, e0.bare⟩
  have st := inv_start (CX := CX0) (P := P) (w := w) (K := K) (mg := mg) (base := B) (E := fun _ _ _ => False) S rfl e1 num rv x
  have st2 : Inv (hotCx P w K mg B N qual scope f cd A fr s H a) [] (L2.start N xs) H s1 := Inv.suiteK (X := cxOf CX0 P w K mg B N qual scope f cd (cool A) fr s H (fun _ _ _ => False)) (pins := []) st
  have eA : ∀ v : Env, ((cool A).deeper v).mark (some (.ref a)) = A.deeper v := fun v => by cases A; cases hA; rfl
  have run := (bd cd A fr s H a).run [] s1 _ H _ st2 (sp_start hs)
  refine ⟨(e0.mod.nolimit.keeps kp).keeps x.toInCall.keep, codeAny_func ?_⟩
  rw [show (hotCx P w K mg B N qual scope f cd A fr s H a).A = A.deeper (envOfC qual scope s.heap.objs.size f cd) from eA _] at run
  refine wpAny_mono run ?_ fun _ _ h => h.elim
  rintro (_ | _ | _ | u) s' h
  · obtain ⟨τ, H', J, q⟩ := h; exact ⟨.non, H', J.os, J.bare, J.base, J.hok, rfl, q⟩
  · obtain ⟨_, _, _, q⟩ := h; exact q.elim
  · obtain ⟨_, _, _, q⟩ := h; exact q.elim
  · obtain ⟨v, τ, H', J, r, q⟩ := h; exact ⟨v, H', J.os, J.bare, J.base, J.hok, r, q⟩
end
/-! ### calls, except suites -/
def mCallH (F : FN) (n : Nat) (t : MA) : ME := fun xc es eh q => t xc es eh fun xs eh1 => xs.length = n ∧ F xF xs eh1 q
section
variable {X : Cx} {E : XK} {a : Addr} {k np : Nat} {f : Addr} {fd : FuncData} {ps : List Str} {Fa : Addr → FN} {x : Str} {p pos : Pos} {e : Expr} {es : List Expr} {t : MA}
theorem re_callH (G : FnGH X.prog X.w X.K X.mg X.base k f fd ps (fun a => spOf X.K X.mg np (Fa a))) (hA : X.A.handled = some (.ref a)) (ro : RoomH k X.A) (hg : Gl X x) (hm : X.mg x = some (.ref f)) (hk : PySem.W.keepIn X.K (.ref f) = true) (hb : Binds X.K fd ps [])
    (ha : PA X (e :: es) (UA X.K X.mg E t)) (hdb : (x == ("__debug__" : Str)) = false := by decide) (he : starEach (e :: es) X.env = (false, eval e X.env) :: starEach es X.env := by rfl) (hpl : (backTo pos (starEach es X.env)).any (·.1) = false := by rfl) :
    PE X (.Call (.Name x p) (e :: es) [] pos) (U X.K X.mg E (mCallH (Fa a) np t)) := by
  constructor
  intro pins s σ H Q I ⟨Hd, es0, eh, xc, q, R, xo, m, kk⟩
  apply wpAny_Call_Name_kw
  apply ld_glob I hg hm _ hdb
  refine PySem.W.callWith_K (h₀ := X.base) I.ok.mod.kin hk (thn (ha.run pos pins s σ H (fun vs H1 => spOf X.K X.mg np (Fa a) vs H1 Q (fun _ _ _ => False)) I ⟨Hd, es0, eh, xc, _, R, xo, m, fun eh1 H1 xs vs s1 R1 r1 ⟨hl, m1⟩ => ?_⟩) fun as s1 ⟨xs, H1, J, r, sp⟩ => ⟨J.kIn, ?_⟩) he hpl
  · exact ⟨Hd, eh1, xs, xF, q, by rw [← r1.length]; exact hl, R1, r1, .no, m1, fun eh2 H2 z w s2 => kk eh2 H2 z w (s1.trans s2)⟩
  · have n := G.num a xs H1 Q _ sp
    have b := hb s1 as J.kIn (by rw [List.append_nil, ← r.length]; exact n)
    rw [List.append_nil] at b
    refine wpAny_call (codeAny_mono (G.go hA ro J.env0 b r sp) fun r s' h => ?_)
    cases r with
    | error er => exact h.elim
    | ok fl =>
      cases fl with
      | ret u => exact J.after h
      | _ => exact h.elim
end
/-- try: mb / except cn as (slot i): ms; ms by the exception's address -/
def sTryH (es : List Str) (cn : Str) (i : Nat) (mb : MS) (ms : Addr → MS) : MS := fun xc d s eh => mb (fun C x eh1 => C ∈ es ∧ isX C cn = true ∧ ∀ a, ms a xF { nx := fun s' eh' => d.nx (s'.set i none) eh', rt := d.rt, bk := fun s' eh' => d.bk (s'.set i none) eh', ct := fun s' eh' => d.ct (s'.set i none) eh' } (s.set i (some (.exa a C x))) eh1) d s eh
section
variable {X : Cx} {E : XK} {es : List Str} {f D : Addr} {cn n : Str} {i : Nat} {body suite : List Stmt} {b₀ : Stmt} {np pos pos' : Pos} {mb : MS} {ms : Addr → MS}
theorem rs_tryH (W : XErr X.K X.prog X.mg X.base es f D) (hx : cn ∈ es) (hN : X.N.Nodup) (hg : Gl X cn)
    (hb : ∀ (W : WX) (pn : List (Addr × Obj)) (xe : Value → Shared → Prop), L2N.Takes (X.tr pn xe) W → PassesOwn (model X.prog X.w) X.A X.env xe → PSs (X.tr pn xe) body (fun D σ H => US X.K X.mg (WE W σ) mb D σ H))
    (hsu : ∀ (a : Addr) (pn : List (Addr × Obj)), PSs (X.suite a pn) (b₀ :: suite) (US X.K X.mg (fun _ _ _ => True) (ms a)))
    (hi : X.N[i]? = some n := by rfl) (hs : X.stack = X.env :: X.outer := by rfl) (hf : X.env.frame = some X.env.locals := by rfl) (hln : X.env.kindOf n = some .local := by rfl) (hdb : (cn == ("__debug__" : Str)) = false := by decide) :
    PS X (.Try body [.ExceptHandler (some (.Name cn np)) (some n) (b₀ :: suite) pos'] [] [] pos) (US X.K X.mg E (sTryH es cn i mb ms)) := by
  obtain ⟨c, hm, _⟩ := W.at_ cn hx
  refine PS.imp (ps_tryK (ts := fun a => US X.K X.mg (fun _ _ _ => True) (ms a)) hs hf hN hi hln ⟨hg, hdb, .inl hm⟩ hb hsu) fun D' σ H ⟨Hd, s, eh, xc, d, R, xo, m, k1, k2, k3, k4⟩ => ?_
  refine ⟨Hd, s, eh, _, d, R, ?_, m, k1, k2, k3, k4⟩
  intro eh1 H1 C cc dd x v s1 R1 hC hd rx ⟨hCes, hX, hm2⟩
  obtain ⟨c2, hm3, _, _, _, ex⟩ := W.at_ C hCes
  rw [hC] at hm3; cases hm3
  refine ⟨by rw [(ex cn hx c hm).2, hX], fun a na => ?_⟩
  have s2 : Step eh1 H1 eh1 (upd H1 a (exh a (.ref cc) (some dd))) := .newF na
  have R2 := R1.newF (o := exh a (.ref cc) (some dd)) na
  have ne : dd ≠ a := fun z => by rw [z, na] at hd; cases hd
  obtain ⟨n1, n2⟩ := Rh.xdn R1 hd
  have rp : Rp X.K X.mg Hd eh1 (upd H1 a (exh a (.ref cc) (some dd))) (.exa a C x) (.ref a) := ⟨a, cc, dd, v, ⟨rfl, rfl⟩, hC, upd_same, by rw [upd_ne ne]; exact hd, ⟨R1.fresh na, R1.notHid na⟩, ⟨n1, n2⟩, rx.step s2⟩
  have st := s1.trans s2
  exact ⟨Hd, s.set i (some (.exa a C x)), eh1, xF, _, (R.step st R2).set rp, .tr, hm2 a,
    fun es' eh' σ' H' s3 R3 m3 => k1 _ eh' _ H' (st.trans s3) R3.unset m3, fun eh' H' x v s3 => k2 eh' H' x v (st.trans s3),
    fun es' eh' σ' H' s3 R3 m3 => k3 _ eh' _ H' (st.trans s3) R3.unset m3, fun es' eh' σ' H' s3 R3 m3 => k4 _ eh' _ H' (st.trans s3) R3.unset m3⟩
end
/-! ### the exception as a value; == of integers, subscripts of lists, anywhere -/
def mAs (m : ME) : ME := fun xc es eh q => m xc es eh fun x eh1 => ∃ a C y, x = .exa a C y ∧ q (.exc C y) eh1
def cEqI (neg : Bool) : EO2 := fun x y eh q => ∃ i j, x = .int i ∧ y = .int j ∧ q (.bl (neg ^^ decide (i = j))) eh
def oIxL : EO2 := fun x y eh q => ∃ xs i z, seqE eh x = some xs ∧ y = .int i ∧ atI xs i = some z ∧ q z eh
section
variable {X : Cx} {E : XK} {e : Expr} {m : ME}
theorem re_as (he : PE X e (U X.K X.mg E m)) : PE X e (U X.K X.mg E (mAs m)) := PE.imp he fun σ H Q ⟨Hd, es, eh, xc, q, R, xo, mm, k⟩ =>
  ⟨Hd, es, eh, xc, _, R, xo, mm, fun eh1 H1 x v s1 R1 r1 ⟨a, C, y, ex, m1⟩ => by
    subst ex
    obtain ⟨a', c, d, u, ⟨e1, _⟩, rest⟩ := r1
    exact k eh1 H1 (.exc C y) v s1 R1 ⟨a', c, d, u, e1, rest⟩ m1⟩
theorem op_eqI : OpR X (compareOp .Eq) (U2 X.K X.mg (cEqI false)) := by
  intro pins s σ H v u a b Q I r1 r2 h
  obtain ⟨Hd, eh, x, y, q, R, rx, ry, ⟨z, z', rfl, rfl, m⟩, k⟩ := h
  cases rx; cases ry
  exact op_eq pins s σ H _ _ a b Q I r1 r2 ⟨rfl, k eh H _ _ .refl R (by simp [Rp]) m⟩
theorem ix_lstH : IxR X (U2 X.K X.mg oIxL) := by
  intro value slice pins s σ H v u a b Q I r1 r2 h hs
  obtain ⟨Hd, eh, x, y, q, R, rx, ry, ⟨xs, i, z, es, ey, hz, m⟩, k⟩ := h
  subst ey
  obtain ⟨p, vs, rfl, hp, rp⟩ := seq_of R rx es
  cases ry
  obtain ⟨w, hw, rw'⟩ := atI_rp rp hz
  rcases hp with hp | hp
  · exact ix_list value slice pins s σ H _ _ a b Q I r1 r2 ⟨p, vs, i, w, rfl, rfl, hp, hw, k eh H _ _ .refl R rw' m⟩ hs
  · exact ix_tup value slice pins s σ H _ _ a b Q I r1 r2 ⟨p, vs, i, w, rfl, rfl, hp, hw, k eh H _ _ .refl R rw' m⟩ hs
end
end VM

/-! VMH3: instances made and methods called that may raise; list.insert, list * int. -/
namespace VM
open PySem PySem.Spec PyProof.Rows L2
section
variable {X : Cx} {W : WX} {k np : Nat} {f C : Addr} {fd : FuncData} {ps : List Str} {F : FN} {dvs : List V} {ds : List Value} {dx : List EV} {cn m : Str} {p pos apos : Pos} {o e : Expr} {es : List Expr} {t : MA}
theorem re_makeW (M : Mk X.K C f) (hC : X.mg cn = some (.ref C)) (G : FnG X.prog X.w X.K X.mg X.base (L2N.CX X.prog X.w) k f fd ps (spOf X.K X.mg np F)) (tk : L2N.Takes X W) (hr : RoomG (k + 1) X.A) (hg : Gl X cn) (hb : Binds X.K fd ps ds) (hd : Vals dvs ds) (hdx : ∀ Hd eh H, RpL X.K X.mg Hd eh H dx dvs)
    (ha : PA X (e :: es) (UA X.K X.mg (fun _ _ _ => True) t)) (hdb : (cn == ("__debug__" : Str)) = false := by decide) (he : starEach (e :: es) X.env = (false, eval e X.env) :: starEach es X.env := by rfl) (hpl : (backTo pos (starEach es X.env)).any (·.1) = false := by rfl) :
    PE X (.Call (.Name cn p) (e :: es) [] pos) (fun σ H Q => U X.K X.mg (WE W σ) (mMake cn F np dx t) σ H Q) :=
  PE.imp (G.make_ M hr hg hC hb hd (fun σ => L2N.passAt tk σ) ha hdb he hpl) fun σ H Q ⟨Hd, es, eh, xc, q, R, xo, m, kk⟩ =>
    ⟨Hd, es, eh, xc, _, R, .tr, m, fun eh1 H1 xs vs s1 R1 r1 ⟨hl, m1⟩ x dx' hx hdx' hne => by
      have st1 : Step eh1 H1 eh1 (upd H1 dx' (.own x)) := .newF hdx'
      have R1' := R1.newF (o := .own x) hdx'
      have hx' : upd H1 dx' (.own x) x = none := by rw [upd_ne hne.symm]; exact hx
      have st2 : Step eh1 (upd H1 dx' (.own x)) (eupd eh1 x (some (.ins cn []))) (upd (upd H1 dx' (.own x)) x (.ins C dx' [])) := .new hx'
      have st := st1.trans st2
      exact ⟨Hd, _, .ref x :: (xs ++ dx), xc, _, by rw [← hl]; exact (congrArg Nat.succ (r1.append (hdx Hd eh1 H1)).length).symm, R1'.new (eo := .ins cn []) hx' ⟨C, dx', [], hC, upd_same, rfl⟩, .cons rfl ((r1.append (hdx Hd eh1 H1)).step st), (xo.step s1).step st, m1 x (R1.fresh hx), fun eh2 H2 z w s2 R2 r2 ⟨e1, m2⟩ => ⟨by subst e1; exact r2, kk eh2 H2 (.ref x) (.ref x) (s1.trans (st.trans s2)) R2 rfl m2⟩⟩⟩
theorem re_methW {ma : ME} {pl : Sem Bool} (hC : X.mg cn = some (.ref C)) (he : PE X o (U X.K X.mg (fun _ _ _ => True) ma)) (c : Cls X.K C) (hm : Meth X.K C m f) (G : FnG X.prog X.w X.K X.mg X.base (L2N.CX X.prog X.w) k f fd ps (spOf X.K X.mg np F)) (tk : L2N.Takes X W) (hr : RoomG k X.A) (hb : Binds X.K fd ps ds) (hd : Vals dvs ds) (hdx : ∀ Hd eh H, RpL X.K X.mg Hd eh H dx dvs)
    (ha : PA X (e :: es) (UA X.K X.mg (fun _ _ _ => True) t)) (hst : starEach (e :: es) X.env = (false, eval e X.env) :: starEach es X.env := by rfl) (hpl : (backTo pos (starEach es X.env)).any (·.1) = false := by rfl)
    (ht : eval (.Call (.Attribute o m apos) (e :: es) [] pos) X.env = (do
      let ov ← eval o X.env
      standAt apos.atName
      let (f, first) ← holding [ov] (getMethod ov m pl)
      callWith pos f first (backTo pos (starEach (e :: es) X.env)) (backToKw pos (keywordEach [] X.env))) := by rfl) :
    PE X (.Call (.Attribute o m apos) (e :: es) [] pos) (fun σ H Q => U X.K X.mg (WE W σ) (mMeth cn m F np dx ma t) σ H Q) :=
  PE.imp (G.meth_ he c hm hr hb hd (fun σ => L2N.passAt tk σ) ha hst hpl ⟨pl, ht⟩) fun σ H Q ⟨Hd, es, eh, xc, q, R, xo, mm, kk⟩ =>
    ⟨Hd, es, eh, xc, _, R, .tr, mm, fun eh1 H1 x v s1 R1 r1 ⟨fs, hi, hl, m1⟩ => by
      obtain ⟨a, c, dx', us, rfl, hc, h, t⟩ := ins_of R1 r1 hi
      rw [hC] at hc; cases hc
      exact ⟨a, dx', us, rfl, h, t.lookup_none hl, Hd, es, eh1, xc, _, R.step s1 R1, .tr, m1, fun eh2 H2 xs vs s2 R2 r2 ⟨hn, m2⟩ =>
        ⟨Hd, eh2, x :: (xs ++ dx), xc, q, by rw [← hn]; exact (RpL.cons (r1.step s2) (r2.append (hdx Hd eh2 H2))).length.symm, R2, .cons (r1.step s2) (r2.append (hdx _ _ _)), (xo.step s1).step s2, m2, fun eh3 H3 z w s3 => kk eh3 H3 z w (s1.trans (s2.trans s3))⟩⟩⟩
end
/-! ### list.insert, list * int -/
def oInsert : EV → EOL := fun x xs eh q => ∃ a ys i y, x = .ref a ∧ xs = [.int i, y] ∧ eh a = some (.lst ys) ∧ ys.length < sizeLine ∧ 0 ≤ i ∧ i < 2 ^ 63 ∧ q .non (eupd eh a (some (.lst (ys.take i.toNat ++ [y] ++ ys.drop i.toNat))))
def oMulL : EO2 := fun x y eh q => ∃ xs k, lstE eh x = some xs ∧ y = .int k ∧ 0 ≤ k ∧ k ≤ 1000 ∧ xs.length ≤ 1000 ∧ q (.lst (List.replicate k.toNat xs).flatten) eh
theorem rpL_take {K : PySem.W.Frag} {mg : Str → Option Value} {Hd : Addr → Prop} {eh : Eh} {H : Hp} : ∀ {xs : List EV} {vs : List V} (n : Nat), RpL K mg Hd eh H xs vs → RpL K mg Hd eh H (xs.take n) (vs.take n) ∧ RpL K mg Hd eh H (xs.drop n) (vs.drop n)
  | [], _, n, h => by cases h; simp only [List.take_nil, List.drop_nil]; exact ⟨rfl, rfl⟩
  | x :: xs, _, 0, h => by simp only [List.take_zero, List.drop_zero]; exact ⟨rfl, h⟩
  | x :: xs, _, n + 1, ⟨v, r, e, hx, t⟩ => by
    subst e
    obtain ⟨t1, t2⟩ := rpL_take n t
    exact ⟨⟨v, _, rfl, hx, t1⟩, t2⟩
section
variable {X : Cx}
theorem mt_insert_e : MtR X "list.insert" (UM X.K X.mg oInsert) := by
  intro pins s σ H v vs u us Q I r1 r2 ⟨Hd, eh, x, xs, q, R, rx, rxs, ⟨a, ys, i, y, ex, exs, he, hl, h0, h1, m⟩, k⟩
  subst ex exs
  cases rx
  obtain ⟨w1, w2, rfl, q1, q2⟩ := two_of rxs
  cases q1
  obtain ⟨ws, hv, rv⟩ := refl_lst R he
  obtain ⟨t1, t2⟩ := rpL_take i.toNat rv
  obtain ⟨st, R'⟩ := write_lst R he ((t1.append (.one q2)).append t2)
  exact mt_insert pins s σ H _ _ u us Q I r1 r2 ⟨_, ws, i, w2, rfl, rfl, hv, by rw [← rv.length]; exact hl, h0, h1, k _ _ .non .non st R' rfl m⟩
theorem op_mulL : OpR X (binaryOp .Mult) (U2 X.K X.mg oMulL) := by
  intro pins s σ H v u a b Q I r1 r2 h
  obtain ⟨Hd, eh, x, y, q, R, rx, ry, ⟨xs, n, ex, ey, h0, h1, hz, m⟩, k⟩ := h
  subst ey
  cases ry
  obtain ⟨l, vs, rfl, hl, rl⟩ := lst_of R rx ex
  have hv := rl.length
  refine op_rep pins s σ H _ _ a b Q I r1 r2 ⟨l, n, vs, rfl, rfl, hl, by omega, by omega, ?_, fun p hp => k eh _ (.lst _) (.ref p) (.newF hp) (R.newF hp) ⟨p, _, rfl, upd_same, ⟨R.fresh hp, R.notHid hp⟩, (rpL_rep rl n.toNat).step (.newF hp)⟩ m⟩
  have h3 : vs.length * n.toNat ≤ 1000 * 1000 := Nat.mul_le_mul (by omega) (by omega)
  exact Nat.le_trans h3 (by decide)
end
end VM

/-! VMA: the head's facts: defs, classes, properties' getters, tables of the defs that make lambdas. -/
namespace VM
open PySem PySem.Spec PyProof.Rows L2
def prA (K : PySem.W.Frag) (C f : Str) : Addr := He.ma K (He.ga K C) f
def geA (K : PySem.W.Frag) (C f : Str) : Addr := match PySem.W.recIn K (prA K C f) "property" with
  | some (.ref g :: _) => g
  | _ => 0
def fnA (K : PySem.W.Frag) (a : Addr) : He.FnW := match K.lookup a with
  | some ⟨_, _, .func fd, _⟩ => some (fd.name, fd.qualname, fd.params, fd.body, fd.scope, fd.globals, fd.closure, fd.builtins)
  | _ => none
/-- a property's getter: class, name, the def -/
structure GetD where
  C : Str
  f : Str
  qual : Str
  params : Arguments
  body : List Stmt
  scope : Scope
def GetD.val (d : GetD) : He.FnW := some (d.f, d.qual, d.params, .stmts d.body, d.scope, mainGlobals, [], builtinsNs)
def GetD.ok (K : PySem.W.Frag) (d : GetD) : Bool := He.eqO (PySem.W.findIn K (.ref (He.ga K d.C)) d.f) (some (some (.ref (prA K d.C d.f)))) && (He.eqO (PySem.W.specialIn K (.ref (prA K d.C d.f)) "__get__") (some (some (.builtin "property.__get__"))) &&
  (decide (PySem.W.takesIn K (.ref (prA K d.C d.f)) = some true) && ((match PySem.W.recIn K (prA K d.C d.f) "property" with | some (.ref _ :: _) => true | _ => false) && (PySem.W.keepIn K (.ref (geA K d.C d.f)) &&
  (match K.lookup (geA K d.C d.f) with
    | some ⟨_, _, .func fd, _⟩ => PySem.W.codeIn K fd.code d.qual && (He.dflB K fd.defaults [] && He.kwdB K fd.kwdefaults [])
    | _ => false)))))
theorem GetD.prop {K : PySem.W.Frag} {d : GetD} (c : d.ok K = true) : PropOf K (He.ga K d.C) d.f (prA K d.C d.f) (geA K d.C d.f) := by
  obtain ⟨c1, c⟩ := He.ba c
  obtain ⟨c2, c⟩ := He.ba c
  obtain ⟨c3, c⟩ := He.ba c
  obtain ⟨c4, _⟩ := He.ba c
  refine ⟨He.eqO_ok c1, He.eqO_ok c2, of_decide_eq_true c3, ?_⟩
  unfold geA
  cases e : PySem.W.recIn K (prA K d.C d.f) "property" with
  | none => rw [e] at c4; cases c4
  | some l =>
    rw [e] at c4
    cases l with
    | nil => cases c4
    | cons v r => cases v with
      | ref g => exact ⟨r, rfl⟩
      | _ => cases c4
theorem GetD.funD {K : PySem.W.Frag} {d : GetD} (e : fnA K (geA K d.C d.f) = d.val) (c : d.ok K = true) : ∃ fd, FunD K d.f d.qual d.params d.body d.scope [] [] (geA K d.C d.f) fd := by
  obtain ⟨_, c⟩ := He.ba c
  obtain ⟨_, c⟩ := He.ba c
  obtain ⟨_, c⟩ := He.ba c
  obtain ⟨_, c⟩ := He.ba c
  obtain ⟨kp, c⟩ := He.ba c
  unfold fnA at e
  cases q : K.lookup (geA K d.C d.f) with
  | none => rw [q] at c; cases c
  | some o =>
    obtain ⟨oc, od, dt, osl⟩ := o
    rw [q] at c e
    cases dt with
    | func fd =>
      obtain ⟨n1, n2, n3, n4, n5, n6, n7, n8, n9, n10, n11, n12, n13, n14, n15⟩ := fd
      unfold GetD.val at e
      simp only [Option.some.injEq, Prod.mk.injEq] at e
      obtain ⟨h1, h2, h3, h4, h5, h6, h7, h8⟩ := e
      subst h1 h2 h3 h4 h5 h6 h7 h8
      obtain ⟨k1, k2⟩ := He.ba c
      obtain ⟨k3, k4⟩ := He.ba k2
      exact ⟨_, ⟨oc, od, n8, n9, n10, n11, n12, n13, n14, osl, rfl, q, k1, He.dflB_ok k3, He.kwdB_ok k4⟩, kp⟩
    | _ => cases c
/-! ### the error classes -/
/-- D: the class with the own __init__ (its def's texts); es: it and its classes; file: the program's file -/
structure ErrD where
  D : Str
  es : List Str
  qual : Str
  params : Arguments
  body : List Stmt
  scope : Scope
  file : Str
def fileOf (vs : Array Value) : Option Str := match (vs[(2 : Nat)]? : Option Value) with
  | some (.str z _) => some z
  | _ => none
theorem fileOf_ok {vs : Array Value} {z : Str} (h : fileOf vs = some z) : ∃ tf, vs[2]? = some (.str z tf) := by
  unfold fileOf at h
  split at h
  · rename_i e; cases h; exact ⟨_, e⟩
  · cases h
abbrev FnC : Type := Option (Str × Str × Arguments × FuncBody × Scope × Addr × List Str × Addr)
def ErrD.at_ (d : ErrD) (K : PySem.W.Frag) : Addr := He.ma K (He.ga K d.D) "__init__"
def ErrD.seen (d : ErrD) (K : PySem.W.Frag) : FnC := match K.lookup (d.at_ K) with
  | some ⟨_, _, .func fd, _⟩ => some (fd.name, fd.qualname, fd.params, fd.body, fd.scope, fd.globals, fd.closure.map (·.1), fd.builtins)
  | _ => none
def ErrD.val (d : ErrD) : FnC := some ("__init__", d.qual, d.params, .stmts d.body, d.scope, mainGlobals, ["__class__"], builtinsNs)
def ErrD.fnB (d : ErrD) (K : PySem.W.Frag) : Bool := match K.lookup (d.at_ K) with
  | some ⟨_, _, .func fd, _⟩ => (match fd.defaults with | .none => true | _ => false) && (PySem.W.codeIn K fd.code d.qual && ((match fd.code with
      | .ref c => (match K.lookup c with
        | some ⟨_, _, .fields vs, _⟩ => decide (fileOf vs = some d.file)
        | _ => false)
      | _ => false) && (match fd.closure with
      | [(_, c)] => (match K.lookup c with
        | some ⟨_, _, .cell (some (.ref D)), _⟩ => D == He.ga K d.D
        | _ => false)
      | _ => false)))
  | _ => false
def ErrD.ok (d : ErrD) (K : PySem.W.Frag) : Bool := d.fnB K && ((PySem.W.clsIn K (He.ga K d.D)).isSome && (decide (PySem.W.typeIn K (.ref (d.at_ K)) = some (.type "function")) && (He.eqO (PySem.W.nsIn K mainGlobals "super") (some none) &&
  d.es.all fun x => He.eqO (PySem.W.nsIn K mainGlobals x) (some (some (.ref (He.ga K x)))) && (sclsB K (He.ga K x) (He.ga K d.D) && (He.eqO (PySem.W.findIn K (.ref (He.ga K x)) "__init__") (some (some (.ref (d.at_ K)))) &&
    d.es.all fun y => decide (PySem.W.kitOne K (.ref (He.ga K x)) (.ref (He.ga K y)) = some (isX x y)) && decide (PySem.W.exmOne K (.ref (He.ga K x)) (.ref (He.ga K y)) = some (isX x y)))))))
/-- what the texts themselves say -/
structure ErrS (d : ErrD) (P : Program) : Prop where
  file : P.main.file = d.file
  top : (P.main.scope.names.lookup ("super" : Str)).isSome = false
  ar : ∃ ar : Arg, (d.params.posonlyargs ++ d.params.args).head? = some ar ∧ ar.arg = "self"
  ks : d.scope.names.lookup ("super" : Str) = some .globalImplicit
  kc : d.scope.names.lookup ("__class__" : Str) = some .free
  k1 : d.scope.names.lookup ("self" : Str) = some .local
  k2 : d.scope.names.lookup ("value" : Str) = some .local
  cell : ∀ x ∈ d.scope.names, x.2 ≠ .cell
  co : d.scope.isCoroutine = false
  gen : d.scope.isGenerator = false
  kind : d.scope.kind = .function
  bd : InitForm d.qual d.body d.scope
  bind : ∀ (kV doc pm ct : Value) (an : Option Addr) (cda cc : Addr), SBind (PySem.W.ksFn "__init__" d.qual d.params d.body d.scope .none kV doc pm an (.ref cda) ct cc)
theorem ErrD.init {K : PySem.W.Frag} {P : Program} {mg : Str → Option Value} {d : ErrD} (S : ErrS d P) (e : d.seen K = d.val) (c : d.fnB K = true) (hD : (PySem.W.clsIn K (He.ga K d.D)).isSome = true) (hs : mg "super" = none) :
    ∃ fd qual params body scope, SInit K P mg (d.at_ K) fd (He.ga K d.D) qual params body scope ∧ SBind fd := by
  obtain ⟨cdD, hD⟩ := Option.isSome_iff_exists.mp hD
  obtain ⟨ar, ha1, ha2⟩ := S.ar
  unfold ErrD.seen at e
  unfold ErrD.fnB at c
  cases q : K.lookup (d.at_ K) with
  | none => rw [q] at c; cases c
  | some o =>
    obtain ⟨oc, od, dt, osl⟩ := o
    rw [q] at c e
    cases dt with
    | func fd =>
      obtain ⟨n1, n2, n3, n4, n5, n6, n7, n8, n9, n10, n11, n12, n13, n14, n15⟩ := fd
      unfold ErrD.val at e
      simp only [Option.some.injEq, Prod.mk.injEq] at e
      obtain ⟨h1, h2, h3, h4, h5, h6, h7, h8⟩ := e
      dsimp only at c
      obtain ⟨c1, c⟩ := He.ba c
      obtain ⟨c2, c⟩ := He.ba c
      obtain ⟨c3, c4⟩ := He.ba c
      have dn : n8 = .none := by cases n8 <;> first | rfl | cases c1
      obtain ⟨cda, hcda⟩ : ∃ c, n13 = Value.ref c := by cases n13 <;> first | exact ⟨_, rfl⟩ | cases c3
      subst hcda
      dsimp only at c3
      split at c3 <;> try cases c3
      rename_i vs _ lkc
      obtain ⟨tf, hvs⟩ := fileOf_ok (of_decide_eq_true c3)
      obtain ⟨cc, hcl⟩ : ∃ cc, n7 = [(("__class__" : Str), cc)] := by
        match n7, h7 with
        | [(y, z)], h7 =>
          have : y = "__class__" := by simpa using h7
          exact ⟨z, by rw [this]⟩
      subst hcl
      dsimp only at c4
      split at c4 <;> try cases c4
      rename_i Dv _ lkcell
      have hDv : Dv = He.ga K d.D := by simpa using c4
      subst h1 h2 h3 h4 h5 h6 h8 dn hDv
      rw [← S.file] at hvs
      exact ⟨_, d.qual, d.params, d.body, d.scope, ⟨⟨oc, _, _, od, _, _, .none, n9, n10, n11, _, _, osl, _, _, cc, cda, vs, tf, ar, cdD, rfl, q, c2, lkc, hvs, lkcell, hD, ha1, ha2⟩, S.top, hs, S.ks, S.kc, S.k1, S.k2, S.cell, S.co, S.gen, S.kind, S.bd⟩, S.bind _ _ _ _ _ _ _⟩
    | _ => cases c
/-! ### the Hook -/
abbrev AlP : Type := He.AlX × List He.FnW × List FnC × Bool
def stB (g : Addr → Option Obj) : Bool := match g cStatics with
  | some o => decide (PySem.W.nsIn [(cStatics, o)] cStatics "thirdparty.any" = some none)
  | none => false
/-- a class with an own __eq__ is as != by it needs -/
def nbB (K : PySem.W.Frag) (x : Str) : Bool :=
  match PySem.W.findIn K (.ref (He.ga K x)) "__eq__" with
  | some (some (.ref _)) => isNB K (He.ga K x)
  | _ => true
def exP (gs : List GetD) (rs : List ErrD) (K : PySem.W.Frag) : Bool := (gs.all fun d => d.ok K) && ((xcs.all fun x => isCB K x && nbB K x) && rs.all fun d => d.ok K)
def obsP (n : Nat) (fa : List He.Fa) (fn : List He.DefD) (gs : List GetD) (rs : List ErrD) (tf : List He.Defn) (g : Addr → Option Obj) : AlP :=
  (He.obsX n fa fn [] tf (exP gs rs) g, gs.map (fun d => fnA (He.frT g (He.asD g n)) (geA (He.frT g (He.asD g n)) d.C d.f)), rs.map (fun d => d.seen (He.frT g (He.asD g n))), rs.isEmpty || stB g)
theorem stB_ok {h : Heap} (e : stB h.get? = true) : StO h := by
  unfold stB at e
  split at e
  · rename_i o q; exact ⟨o, q, of_decide_eq_true e⟩
  · cases e
structure SaysP (fa : List He.Fa) (fn : List He.DefD) (gs : List GetD) (rs : List ErrD) (tf : List He.Defn) (w : World) (h : Heap) (K : PySem.W.Frag) : Prop where
  x : He.SaysX fa fn [] tf (exP gs rs) w h K
  g : gs.map (fun d => fnA K (geA K d.C d.f)) = gs.map GetD.val
  r : rs.map (fun d => d.seen K) = rs.map ErrD.val
  s : rs ≠ [] → StO h
def hookP (n : Nat) (fa : List He.Fa) (fn : List He.DefD) (gs : List GetD) (rs : List ErrD) (tf : List He.Defn) : PySem.W.Hook where
  α := AlP
  obs := fun s => obsP n fa fn gs rs tf s.heap.get?
  val := fun w => (He.valX fn [] w, gs.map GetD.val, rs.map ErrD.val, true)
  says := fun w h => ∃ K : PySem.W.Frag, K.In h ∧ SaysP fa fn gs rs tf w h K
  of := fun _ _ e => ⟨_, He.frT_in, He.saysX_of (congrArg (fun z : AlP => z.1) e), congrArg (fun z : AlP => z.2.1) e, congrArg (fun z : AlP => z.2.2.1) e, fun hr => stB_ok (by
    have z : (rs.isEmpty || stB _) = true := congrArg (fun z : AlP => z.2.2.2) e
    cases rs with
    | nil => exact absurd rfl hr
    | cons a l => exact z)⟩
  keeps := fun _ _ _ ⟨K, hK, c⟩ k => ⟨K, PySem.W.Frag.In.keeps hK k, ⟨⟨c.x.t, c.x.more, c.x.hd, c.x.out, fun p hp => k _ _ (c.x.empty p hp)⟩, c.g, c.r, fun hr => (c.s hr).keeps k⟩⟩
theorem obsP_eq {n : Nat} {fa : List He.Fa} {fn : List He.DefD} {gs : List GetD} {rs : List ErrD} {tf : List He.Defn} {g : Addr → Option Obj} {s : Shared} (h : ∀ a, g a = s.heap.get? a) : obsP n fa fn gs rs tf g = (hookP n fa fn gs rs tf).obs s := by
  have e : g = s.heap.get? := funext h
  rw [e]; rfl
/-- what the walks lean on -/
structure Wd (fa : List He.Fa) (fn : List He.DefD) (gs : List GetD) (rs : List ErrD) (K : PySem.W.Frag) (mg : Str → Option Value) (base : Heap) : Prop where
  X : ∃ h : Heap, K.In h ∧ h.Ns mainGlobals mg
  c : He.SaysD fa fn K
  g : gs.map (fun d => fnA K (geA K d.C d.f)) = gs.map GetD.val
  r : rs.map (fun d => d.seen K) = rs.map ErrD.val
  st : rs ≠ [] → StO base
  go : exP gs rs K = true
  tb : ∀ p ∈ tfs.map (·.1), LamX.TabB base mg (He.cT K p).1 (He.cT K p).2
section
variable {fa : List He.Fa} {fn : List He.DefD} {gs : List GetD} {rs : List ErrD} {K : PySem.W.Frag} {mg : Str → Option Value} {base : Heap}
theorem Wd.glo (W : Wd fa fn gs rs K mg base) (i : Nat) {x : Str} (h : fa[i]? = some (.glo x) := by rfl) : mg x = some (.ref (He.ga K x)) := by
  obtain ⟨h', a, b⟩ := W.X
  exact He.glo_ok a b (W.c.fact i h)
theorem Wd.free (W : Wd fa fn gs rs K mg base) (i : Nat) {x : Str} (h : fa[i]? = some (.free x) := by rfl) : mg x = none := by
  obtain ⟨h', a, b⟩ := W.X
  exact He.free_ok a b (W.c.fact i h)
theorem Wd.int (W : Wd fa fn gs rs K mg base) (i : Nat) {x : Str} {n : Int} (h : fa[i]? = some (.int x n) := by rfl) : ∃ t, mg x = some (.int n t) := by
  obtain ⟨h', a, b⟩ := W.X
  exact He.int_ok a b (W.c.fact i h)
theorem Wd.str (W : Wd fa fn gs rs K mg base) (i : Nat) {x z : Str} (h : fa[i]? = some (.str x z) := by rfl) : ∃ t, mg x = some (.str z t) := by
  obtain ⟨h', a, b⟩ := W.X
  exact He.str_ok a b (W.c.fact i h)
theorem Wd.cls (W : Wd fa fn gs rs K mg base) (i : Nat) {x : Str} (h : fa[i]? = some (.cls x) := by rfl) : Cls K (He.ga K x) := He.cls_ok (W.c.fact i h)
theorem Wd.noat (W : Wd fa fn gs rs K mg base) (i : Nat) {x f : Str} (h : fa[i]? = some (.noat x f) := by rfl) : NoAttr K (He.ga K x) f := He.noat_ok (W.c.fact i h)
theorem Wd.meth (W : Wd fa fn gs rs K mg base) (i : Nat) {x f : Str} (h : fa[i]? = some (.meth x f) := by rfl) : Meth K (He.ga K x) f (He.ma K (He.ga K x) f) := He.meth_ok (W.c.fact i h)
theorem Wd.mkr (W : Wd fa fn gs rs K mg base) (i : Nat) {x : Str} (h : fa[i]? = some (.mkr x) := by rfl) : Mk K (He.ga K x) (He.ma K (He.ga K x) "__init__") := He.mkr_ok (W.c.fact i h)
theorem Wd.isC (W : Wd fa fn gs rs K mg base) {x : Str} (h : x ∈ xcs) (c : Cls K (He.ga K x)) : C8.InsC K (He.ga K x) := isCB_ok c (He.ba (List.all_eq_true.mp (He.ba (He.ba W.go).2).1 x h)).1
theorem Wd.isN (W : Wd fa fn gs rs K mg base) {x : Str} {f : Addr} (h : x ∈ xcs) (m : Meth K (He.ga K x) "__eq__" f) : isNB K (He.ga K x) = true := by
  have := (He.ba (List.all_eq_true.mp (He.ba (He.ba W.go).2).1 x h)).2
  unfold nbB at this
  rw [m.at_] at this
  exact this
theorem Wd.get (W : Wd fa fn gs rs K mg base) (i : Nat) {d : GetD} (h : gs[i]? = some d := by rfl) : PropOf K (He.ga K d.C) d.f (prA K d.C d.f) (geA K d.C d.f) ∧ ∃ fd, FunD K d.f d.qual d.params d.body d.scope [] [] (geA K d.C d.f) fd := by
  have ok : d.ok K = true := List.all_eq_true.mp (He.ba W.go).1 d (List.mem_of_getElem? h)
  have e : (gs.map fun d => fnA K (geA K d.C d.f))[i]? = (gs.map GetD.val)[i]? := by rw [W.g]
  rw [List.getElem?_map, List.getElem?_map, h] at e
  exact ⟨GetD.prop ok, GetD.funD (Option.some.inj e) ok⟩
end
/-- the error classes -/
theorem Wd.err {fa : List He.Fa} {fn : List He.DefD} {gs : List GetD} {rs : List ErrD} {K : PySem.W.Frag} {mg : Str → Option Value} {base : Heap} (W : Wd fa fn gs rs K mg base) {P : Program} (i : Nat) {d : ErrD} (S : ErrS d P) (h : rs[i]? = some d := by rfl) : XErr K P mg base d.es (d.at_ K) (He.ga K d.D) := by
  obtain ⟨hp, kin, ns⟩ := W.X
  have ok : d.ok K = true := List.all_eq_true.mp (He.ba (He.ba W.go).2).2 d (List.mem_of_getElem? h)
  have e : (rs.map fun d => d.seen K)[i]? = (rs.map ErrD.val)[i]? := by rw [W.r]
  rw [List.getElem?_map, List.getElem?_map, h] at e
  obtain ⟨c1, ok⟩ := He.ba ok
  obtain ⟨c2, ok⟩ := He.ba ok
  obtain ⟨c3, ok⟩ := He.ba ok
  obtain ⟨c4, ok⟩ := He.ba ok
  have all := List.all_eq_true.mp ok
  have gl : ∀ x ∈ d.es, mg x = some (.ref (He.ga K x)) := fun x hx => PySem.W.mg_of kin ns (He.eqO_ok (He.ba (all x hx)).1)
  refine ⟨W.st (fun z => by rw [z] at h; simp at h), ErrD.init S (Option.some.inj e) c1 c2 (PySem.W.mg_none_of kin ns (He.eqO_ok c4)), of_decide_eq_true c3, fun x hx => ?_⟩
  obtain ⟨_, b⟩ := He.ba (all x hx)
  obtain ⟨b1, b⟩ := He.ba b
  obtain ⟨b2, b3⟩ := He.ba b
  obtain ⟨t1, t2⟩ := sclsB_ok b1
  refine ⟨_, gl x hx, t1, t2, He.eqO_ok b2, fun y hy C' hC' => ?_⟩
  rw [gl y hy] at hC'
  cases hC'
  obtain ⟨g1, g2⟩ := He.ba (List.all_eq_true.mp b3 y hy)
  exact ⟨of_decide_eq_true g1, of_decide_eq_true g2⟩
/-- a def that makes lambdas: its code object is known -/
theorem fn_ok0L {P : Program} {w : World} {K : PySem.W.Frag} {mg : Str → Option Value} {base : Heap} {x qual : Str} {params : Arguments} {body : List Stmt} {scope : Scope} {dvs : List V} {kws : List (Str × V)} {at_ : Str × Option Str} {fd : FuncData} {N ps : List Str} {k : Nat} {ms : MS}
    (F : FunD K x qual params body scope dvs kws (He.fAd K at_) fd) (S : FnScope N ps scope)
    (h : ∀ (A : Around) (outer : List Env) (s : Shared) (H : Hp) (E : XK), RoomG k (A.deeper (envOfC qual scope s.heap.objs.size (He.fAd K at_) (.ref (He.cT K at_).1))) → PSs (cxOf CX0 P w K mg base N qual scope (He.fAd K at_) (.ref (He.cT K at_).1) A outer s H E).nox body (US K mg E ms)) :
    FnG P w K mg base CX0 (k + 1) (He.fAd K at_) fd ps (spOf K mg ps.length (fnOf N.length ms)) := by
  refine .of F S (fun vs H Q E h => h.choose_spec.choose_spec.choose_spec.choose_spec.choose_spec.1) fun cdv A outer s H vs Q E ⟨oc, od, osl, lk, ec, hcd⟩ hr hsp => ?_
  have hcv : ∃ c, cdv = .ref c := by
    unfold PySem.W.codeIn at hcd
    cases cdv with
    | ref c => exact ⟨c, rfl⟩
    | _ => cases hcd
  obtain ⟨c, rfl⟩ := hcv
  have hc : (He.cT K at_).1 = c := He.codeOf_eq lk ec
  rw [← hc] at hr ⊢
  exact ⟨_, (h A outer s H E hr).nox, sp_start hsp⟩
/-- the same, and it may raise -/
theorem fn_okXL {P : Program} {w : World} {K : PySem.W.Frag} {mg : Str → Option Value} {base : Heap} {x qual : Str} {params : Arguments} {body : List Stmt} {scope : Scope} {dvs : List V} {kws : List (Str × V)} {at_ : Str × Option Str} {fd : FuncData} {N ps : List Str} {k : Nat} {ms : MS}
    (F : FunD K x qual params body scope dvs kws (He.fAd K at_) fd) (S : FnScope N ps scope)
    (h : ∀ (A : Around) (outer : List Env) (s : Shared) (H : Hp) (E : XK), RoomG k (A.deeper (envOfC qual scope s.heap.objs.size (He.fAd K at_) (.ref (He.cT K at_).1))) → PSs (cxOf (L2N.CX P w) P w K mg base N qual scope (He.fAd K at_) (.ref (He.cT K at_).1) A outer s H E) body (US K mg E ms)) :
    FnG P w K mg base (L2N.CX P w) (k + 1) (He.fAd K at_) fd ps (spOf K mg ps.length (fnOf N.length ms)) := by
  refine .of F S (fun vs H Q E h => h.choose_spec.choose_spec.choose_spec.choose_spec.choose_spec.1) fun cdv A outer s H vs Q E ⟨oc, od, osl, lk, ec, hcd⟩ hr hsp => ?_
  have hcv : ∃ c, cdv = .ref c := by
    unfold PySem.W.codeIn at hcd
    cases cdv with
    | ref c => exact ⟨c, rfl⟩
    | _ => cases hcd
  obtain ⟨c, rfl⟩ := hcv
  have hc : (He.cT K at_).1 = c := He.codeOf_eq lk ec
  rw [← hc] at hr ⊢
  exact ⟨_, h A outer s H E hr, sp_start hsp⟩
end VM

/-! VMB: keyword binding by places; statements of a class. -/
namespace VM
open PySem PySem.Spec PyProof.Rows L2
def clB : Stmt → List Stmt
  | .ClassDef (body := b) .. => b
  | _ => []
/-- the values in the parameters' order: inl i: the i-th positional one, inr j: the j-th keyword's -/
def prm {α : Type} (d : α) (is : List (Nat ⊕ Nat)) (us ws : List α) : List α := is.map fun i => match i with
  | .inl i => us.getD i d
  | .inr j => ws.getD j d
theorem Vals.getD {vs : List V} {us : List Value} (r : Vals vs us) (i : Nat) : RelV (vs.getD i .non) (us.getD i .none) := by
  rw [List.getD_eq_getElem?_getD, List.getD_eq_getElem?_getD]
  cases e : vs[i]? with
  | some v => obtain ⟨u, hu, q⟩ := r.get e; rw [hu]; exact q
  | none =>
    have : us[i]? = none := by rw [List.getElem?_eq_none_iff] at e ⊢; rw [← r.length]; exact e
    rw [this]; rfl
theorem RpL.getD {K mg Hd eh H} {xs : List EV} {vs : List V} (r : RpL K mg Hd eh H xs vs) (i : Nat) : Rp K mg Hd eh H (xs.getD i .non) (vs.getD i .non) := by
  rw [List.getD_eq_getElem?_getD, List.getD_eq_getElem?_getD]
  cases e : xs[i]? with
  | some v => obtain ⟨u, hu, q⟩ := r.get e; rw [hu]; exact q
  | none =>
    have : vs[i]? = none := by rw [List.getElem?_eq_none_iff] at e ⊢; rw [← r.length]; exact e
    rw [this]; rfl
theorem prm_rel (is : List (Nat ⊕ Nat)) {vs : List V} {us : List Value} {zs : List V} {ws : List Value} (r : Vals vs us) (r' : Vals zs ws) : Vals (prm .non is vs zs) (prm .none is us ws) := by
  induction is with
  | nil => exact .nil
  | cons i is ih =>
    cases i with
    | inl j => exact .cons (Vals.getD r j) ih
    | inr j => exact .cons (Vals.getD r' j) ih
theorem prm_ok {K mg} (is : List (Nat ⊕ Nat)) : GOk K mg (prm .non is) (prm .non is) := ⟨fun {Hd eh H xs zs vs ws} r r' => by
  induction is with
  | nil => exact .nil
  | cons i is ih =>
    cases i with
    | inl j => exact RpL.cons (RpL.getD r j) ih
    | inr j => exact RpL.cons (RpL.getD r' j) ih⟩
theorem kbn_of {K : PySem.W.Frag} {x qual : Str} {params : Arguments} {body : List Stmt} {scope : Scope} {f : Addr} {fd : FuncData} {ps ks : List Str} {n : Nat} (is : List (Nat ⊕ Nat)) (F : FunD K x qual params body scope [] [] f fd)
    (h : ∀ (kV doc pm : Value) (an : Option Addr) (cdv ct : Value) (us ws : List Value), us.length = n → ws.length = ks.length → bindArgs (PySem.W.fnOf x qual params body scope .none kV doc pm an cdv ct) ⟨us, ks.zip ws⟩ = pure (ps.zip (prm .none is us ws))) :
    KBn K fd ps n ks (prm .none is) (prm .non is) := by
  obtain ⟨oc, od, dV, kV, doc, pm, an, cdv, ct, osl, rfl, lk, hcd, hD, hK⟩ := F.ex
  rcases hD with ⟨_, rfl⟩ | ⟨e, _⟩
  · exact ⟨fun s us ws _ l1 l2 => .of_eq (h kV doc pm an cdv ct us ws l1 l2), fun r r' => prm_rel is r r'⟩
  · exact absurd rfl e
theorem kbn_ofD {K : PySem.W.Frag} {x qual : Str} {params : Arguments} {body : List Stmt} {scope : Scope} {f : Addr} {fd : FuncData} {ps ks : List Str} {dvs : List V} {n : Nat} (is : List (Nat ⊕ Nat)) (F : FunD K x qual params body scope dvs [] f fd) (hd : dvs ≠ [])
    (h : ∀ (T : Addr) (kV doc pm : Value) (an : Option Addr) (cdv ct : Value) (us ws its : List Value), us.length = n → ws.length = ks.length → its.length = dvs.length →
      ∃ k, bindArgs (PySem.W.fnOf x qual params body scope (.ref T) kV doc pm an cdv ct) ⟨us, ks.zip ws⟩ = seqItems? (.ref T) >>= k ∧ k (some its.toArray) = pure (ps.zip (prm .none is us ws))) :
    KBn K fd ps n ks (prm .none is) (prm .non is) := by
  obtain ⟨oc, od, dV, kV, doc, pm, an, cdv, ct, osl, rfl, lk, hcd, hD, hK⟩ := F.ex
  rcases hD with ⟨e, _⟩ | ⟨_, T, o, its, m, rfl, lT, oT, rT⟩
  · exact absurd e hd
  · refine ⟨fun s us ws X l1 l2 => ?_, fun r r' => prm_rel is r r'⟩
    obtain ⟨k, e1, e2⟩ := h T kV doc pm an cdv ct us ws its l1 l2 rT.length.symm
    refine BindsTo.of_looks fun M => ?_
    rw [e1]
    exact looks_items X lT oT (.of_pure e2)
end VM
namespace VM
open PySem PySem.Spec PyProof.Rows L2
theorem tab_uniq {K : PySem.W.Frag} {i : Nat} {P : Addr} {q : Str} (h : tfs.map (·.2) = [q]) : ∀ p ∈ tabT K, p.1 = P → p.2 = q := fun p hp _ => by
  have : p.2 ∈ tfs.map (·.2) := by
    unfold tabT at hp
    obtain ⟨t, ht, rfl⟩ := List.mem_map.mp hp
    exact List.mem_map.mpr ⟨t, ht, rfl⟩
  rw [h] at this
  exact List.mem_singleton.mp this
end VM

/-! VMC: the end: what is left of the law is a fact about a pure function. -/
namespace VM
open PySem PySem.Spec PyProof.Rows L2
/-- what is seen of the start: the script (unless K holds it) and the tables of code objects -/
def startH (K : PySem.W.Frag) (T : List Addr) (a : Addr) (o : Obj) (vs : List V) : Hp := fun b =>
  if b ∈ T then some (.tbl #[]) else if b = a then (if (K.lookup a).isSome then none else some (.frz o (.lst vs))) else none
section
variable {P : Program} {w : World} {K : PySem.W.Frag} {mg mb : Str → Option Value} {k : Nat} {fa a : Addr} {cs : List (Addr × Addr)} {fd : FuncData} {x : Str} {sp : Sp} {s : Shared} {vs : List Value} {ns : List Int}
/-- the law's def is called at the script: from a promise that knows that no repr is under way -/
theorem start_call (kin : K.In s.heap) (gm : s.heap.Ns mainGlobals mg) (gb : s.heap.Ns builtinsNs mb) (eb : ∀ x : Str, x ≠ "__name__" → mb x = bootBuiltins x) (lim : s.heap.NoLimit) (gen : s.gens = #[])
    (tb : ∀ p ∈ cs, s.heap.get? p.2 = some { cls := .none, data := .fields #[] }) (tk : ∀ p ∈ cs, K.lookup p.2 = none) (cd : ∀ p ∈ cs, PySem.W.CodeHd s.heap p.1 p.2)
    (bi : ∃ (m : Addr) (o : Obj), mg "__builtins__" = some (.ref m) ∧ m ≠ builtinsNs ∧ s.heap.get? m = some o ∧ o.cls = .type "module" ∧ o.dict = some builtinsNs ∧ o.data = .plain)
    (scr : s.heap.get? a = some { cls := .type "list", data := .seq vs.toArray }) (int : IntsAre vs ns) (sz : ns.length ≤ sizeLine) (ro : Room k callerA)
    (F : ∀ B : Heap, K.In B → B.Ns mainGlobals mg → (StO s.heap → StO B) → (∀ p ∈ cs, LamX.TabB B mg p.1 p.2) → FnG P w K mg B CX0 k fa fd [x] sp) (bd : ∀ (s : Shared) (u : Value), BindsTo s fd ⟨[u], []⟩ [(x, u)])
    (hs : ∀ H : Hp, (∀ p ∈ cs, H p.2 = some (.tbl #[])) → SqL K H a (ns.map V.int) → sp [.ref a] H (fun v _ => v = .bl true) fun _ _ _ => False) :
    codeAny (model P w) callerA (.call (.ref fa) ⟨[.ref a], []⟩) (fun r t => r = .ok (.ret (.bool true)) ∧ OldK s.heap t.heap ∧ t.os = s.os ∧ AllBare t.gens) s := by
  have rv := vals_ints int
  generalize hO : ({ cls := .type "list", data := .seq vs.toArray } : Obj) = O at scr
  have seq : O.data = .seq vs.toArray := by rw [← hO]
  generalize hT : cs.map (·.2) = T
  have inT : ∀ {p}, p ∈ cs → p.2 ∈ T := fun hp => hT ▸ List.mem_map.mpr ⟨_, hp, rfl⟩
  have atT : ∀ {b}, b ∈ T → s.heap.get? b = some { cls := .none, data := .fields #[] } := fun hb => by
    rw [← hT] at hb; obtain ⟨p, hp, rfl⟩ := List.mem_map.mp hb; exact tb p hp
  have keyT : ∀ {b}, b ∈ T → K.lookup b = none := fun hb => by
    rw [← hT] at hb; obtain ⟨p, hp, rfl⟩ := List.mem_map.mp hb; exact tk p hp
  have aT : a ∉ T := fun z => by
    have q := Option.some.inj ((atT z).symm.trans scr)
    rw [← q] at seq; cases seq
  generalize eH : startH K T a O (ns.map V.int) = H
  have onT : ∀ {b}, b ∈ T → H b = some (.tbl #[]) := fun hb => by rw [← eH]; exact if_pos hb
  have out : ∀ {b}, b ∉ T → b ≠ a → H b = none := fun h1 h2 => by rw [← eH]; exact (if_neg h1).trans (if_neg h2)
  have ata : H a = if (K.lookup a).isSome then none else some (.frz O (.lst (ns.map V.int))) := by rw [← eH]; exact (if_neg aT).trans (if_pos rfl)
  -- an object of another kind is not seen
  have plain : ∀ {b o}, s.heap.get? b = some o → (∀ us n, o.data ≠ .seq us n) → o.data ≠ .fields #[] → H b = none := fun {b o} e h1 h2 => by
    apply out
    · intro z; have q := Option.some.inj ((atT z).symm.trans e); rw [← q] at h2; exact h2 rfl
    · intro z; subst z; have q := Option.some.inj (scr.symm.trans e); rw [← q] at h1; exact h1 _ _ seq
  have isD : ∀ {b m}, s.heap.Ns b m → (hidT s.heap H).Ns b m := by
    rintro b m ⟨o, es, ep, e, d, r⟩
    refine ⟨o, es, ep, hidT_get e (plain e ?_ ?_), d, r⟩ <;> (intros; rw [d]; simp)
  have stT : StO s.heap → StO (hidT s.heap H) := fun ⟨o, e, q⟩ => by
    refine ⟨o, hidT_get e (plain e (fun us n z => ?_) (fun z => ?_)), q⟩
    all_goals
      obtain ⟨oc, od, dt, osl⟩ := o
      dsimp only at z
      subst z
      simp [PySem.W.nsIn] at q
  have kinB : K.In (hidT s.heap H) := fun b o e => by
    refine hidT_get (kin b o e) ?_
    by_cases h1 : b ∈ T
    · rw [keyT h1] at e; cases e
    · by_cases h2 : b = a
      · subst h2; rw [ata, e]; rfl
      · exact out h1 h2
  have md : L2.Mod K mg (hidT s.heap H) := ⟨kinB, isD gm, ⟨mb, isD gb, eb⟩, by obtain ⟨mc, c1, c2⟩ := lim; exact ⟨mc, isD c1, c2⟩⟩
  have tabs : ∀ p ∈ cs, LamX.TabB (hidT s.heap H) mg p.1 p.2 := fun p hp => by
    have t0 := tb p hp
    constructor
    · obtain ⟨o, us, file, tf, flags, tg, inF, text, tt, e, q, d, r3, rr⟩ := cd p hp
      refine ⟨o, us, file, tf, flags, tg, inF, text, tt, hidT_get e (plain e (by intros; rw [d]; simp) ?_), q, d, r3, rr⟩
      intro z; rw [d] at z; cases z; simp at r3
    · obtain ⟨m, o, b1, b2, e, b4, b5, d⟩ := bi
      refine ⟨m, o, b1, b2, ?_, ?_, hidT_get e (plain e (by intros; rw [d]; simp) (by rw [d]; simp)), b4, b5, d⟩
      · rintro rfl; obtain ⟨o', es, ep, e', d', _⟩ := gm; rw [e'] at e; cases e; rw [d'] at d; cases d
      · rintro rfl; rw [t0] at e; cases e; cases d
    · intro z
      obtain ⟨o', es, ep, e', d', _⟩ := gm
      rw [z, t0] at e'; cases e'; cases d'
  have hok : HOk P w H s.heap := fun b u e => by
    by_cases h1 : b ∈ T
    · rw [onT h1] at e; cases e; exact atT h1
    · by_cases h2 : b = a
      · subst h2
        rw [ata] at e
        split at e
        · cases e
        · cases e; exact ⟨scr, by rw [List.length_map]; exact sz, vs, _, rv, hO ▸ scr⟩
      · rw [out h1 h2] at e; cases e
  have e0 : Env0 P w K mg (hidT s.heap H) callerA [] s H := ⟨rfl, md, fun b o e => of_hidT e, Nat.le_of_eq (hidT_size _ _), trivial, (by intro b hb; cases hb), hok, .of_eq gen⟩
  have sq : SqL K H a (ns.map V.int) := by
    cases hk : K.lookup a with
    | none => exact .inl (.inr ⟨O, by rw [ata, hk]; rfl⟩)
    | some o =>
      have := Option.some.inj (scr.symm.trans (kin a o hk)); subst this
      exact .inr ⟨O, vs.toArray, 0, hk, by rw [← hO], by rw [← hO], seq, by rw [List.size_toArray, int.length]; exact sz, by simpa using rv⟩
  have run := (F _ kinB (isD gm) stT tabs).go (xs := [.ref a]) ⟨ro, rfl⟩ e0 (bd s (.ref a)) (.cons rfl .nil) (hs H (fun p hp => onT (inT hp)) sq)
  refine codeAny_mono run ?_
  rintro (_ | _ | _ | _ | u) t h
  case error => exact h.elim
  case ok.next => exact h.elim
  case ok.brk => exact h.elim
  case ok.cont => exact h.elim
  obtain ⟨v, H', os, bare, un, hok', r, rfl⟩ := h
  cases r
  have old : ∀ {b o}, b ∉ T → s.heap.get? b = some o → t.heap.get? b = some o := fun {b o} h1 e => by
    cases q : H b with
    | none => exact un.keep b o e q (by intro z; cases z) (by simp)
    | some u =>
      by_cases h2 : b = a
      · subst h2
        rw [ata] at q
        split at q
        · cases q
        · cases q
          rename_i hk
          have z := hok' b _ (un.frzs b O _ (by rw [ata, if_neg hk]))
          rw [Option.some.inj (e.symm.trans scr)]; exact z.1
      · rw [out h1 h2] at q; cases q
  have more : ∀ {b}, b ∈ T → ∃ us : Array Value, t.heap.get? b = some { cls := .none, data := .fields us } := fun hb => by
    obtain ⟨us, z⟩ := un.tbls _ #[] (onT hb)
    exact ⟨_, hok' _ _ z⟩
  refine ⟨rfl, ⟨fun b o e => ?_, fun b o e => ?_⟩, os, bare⟩
  · by_cases hb : b ∈ T
    · have hb' := hb
      rw [← hT] at hb'
      obtain ⟨p, hp, rfl⟩ := List.mem_map.mp hb'
      obtain ⟨us, hu⟩ := more hb
      have q := Option.some.inj ((tb p hp).symm.trans e)
      subst q
      exact .inr (.inl ⟨((cd p hp).tab (tb p hp)).isCodeTable, rfl, #[], us, rfl, by rw [Array.empty_append]; exact hu⟩)
    · exact .inl (old hb e)
  · by_cases hb : b ∈ T
    · obtain ⟨us, hu⟩ := more hb; exact ⟨_, hu⟩
    · exact ⟨o, old hb e⟩
end
/-- what is left of the law -/
def EndG (l : PySem.W.OpenLaw) (w : World) (K : PySem.W.Frag) (k n : Nat) (x : Str) (mg : Str → Option Value) (fa : Addr) (h : Heap) : Prop :=
  ∃ (fd : FuncData) (cs : List (Addr × Addr)) (sp : Sp), (∀ p ∈ cs, h.get? p.2 = some { cls := .none, data := .fields #[] }) ∧ (∀ p ∈ cs, K.lookup p.2 = none) ∧ (∀ p ∈ cs, PySem.W.CodeHd h p.1 p.2) ∧ (∀ (s : Shared) (u : Value), BindsTo s fd ⟨[u], []⟩ [(x, u)]) ∧
    (∀ (H : Hp) (a : Addr) (ns : List Int), ns.length ≤ n → (∀ z ∈ ns, Builtin.Int.intBits z ≤ 1048576) → (∀ p ∈ cs, H p.2 = some (.tbl #[])) → SqL K H a (ns.map V.int) → sp [.ref a] H (fun v _ => v = .bl true) fun _ _ _ => False) ∧
    ∀ B : Heap, K.In B → B.Ns mainGlobals mg → (StO h → StO B) → (∀ p ∈ cs, LamX.TabB B mg p.1 p.2) → FnG l.prog w K mg B CX0 k fa fd [x] sp
theorem walk_end {l : PySem.W.OpenLaw} {n k : Nat} {q : Program} {loose : List Str} {XP : (Str → Option Value) → Heap → Prop} {YP : World → Heap → Prop} {d : DefRec} {x : Str}
    (hn : l.most = some n) (hn2 : n ≤ sizeLine) (hdf : d.params.defaults = []) (hr : Room k callerA)
    (F : ∀ (w : World) (mg : Str → Option Value) (fa : Addr) (h : Heap), YP w h → h.Ns mainGlobals mg → mg d.name = some (.ref fa) → ∃ K : PySem.W.Frag, K.In h ∧ EndG l w K k n x mg fa h) :
    PySem.W.WalkO q loose XP YP l.row.toRowW d [] (fun f vs => PySem.call f vs) := by
  apply Att.attach_callB hn hdf
  intro w s₀ s mg mb fa o pm cd doc a vs ns G Y _ _ _ hmg scr int len bits gen
  obtain ⟨K, kin, fd, cs, sp, t1, t2, t3, bd, hs, hF⟩ := F w mg fa _ Y G.T.g hmg
  exact start_call kin G.T.g G.T.b G.T.builtins G.T.nolimit gen t1 t2 t3 G.T.bmain scr int (Nat.le_trans len hn2) hr hF bd fun H tH sH => hs H a ns len bits tH sH
theorem end_at {l : PySem.W.OpenLaw} {w : World} {K : PySem.W.Frag} {mg : Str → Option Value} {fa : Addr} {h : Heap} {k n : Nat} {x : Str} {fs : List He.Fa} {fn : List He.DefD} {gs : List GetD} {rs : List ErrD} {fd : FuncData} {F : FN} (KX : K.In h) (G : h.Ns mainGlobals mg)
    (c : SaysP fs fn gs rs (tfs.map (·.1)) w h K) (hb : ∀ (s : Shared) (u : Value), BindsTo s fd ⟨[u], []⟩ [(x, u)]) (hok : ∀ base, Wd fs fn gs rs K mg base → FnG l.prog w K mg base CX0 k fa fd [x] (spOf K mg 1 F))
    (hp : ∀ ns : List Int, ns.length ≤ n → (∀ z ∈ ns, Builtin.Int.intBits z ≤ 1048576) → F xF [.scr ns] (fun _ => none) fun x _ => x = .bl true) : EndG l w K k n x mg fa h := by
  have mem : ∀ {P : Addr × Addr → Prop}, (∀ p ∈ tfs.map (·.1), P (He.cT K p)) → ∀ p ∈ (tfs.map (·.1)).map (He.cT K), P p := fun {P} f p hp => by
    obtain ⟨q, hq, rfl⟩ := List.mem_map.mp hp
    exact f q hq
  refine ⟨fd, (tfs.map (·.1)).map (He.cT K), spOf K mg 1 F, mem c.x.empty, mem c.x.out, mem fun p hp => PySem.W.codeHd_of_K KX (c.x.hd p hp), hb, fun H a ns hl hbits hT hS => ?_, fun base KB GB SB TB => hok base ⟨⟨base, KB, GB⟩, c.x.t.d, c.g, c.r, fun hr => SB (c.s hr), c.x.more, fun p hp => TB _ (List.mem_map.mpr ⟨p, hp, rfl⟩)⟩⟩
  refine ⟨fun _ => False, fun _ => none, [.scr ns], xF, _, rfl, ⟨fun p hp => ?_, fun a o e => by simp at e, fun a z => z.elim⟩, .one ⟨a, rfl, ?_⟩, .no, hp ns hl hbits, fun eh' H' x v _ _ r e => ?_⟩
  · unfold tabT at hp
    obtain ⟨q, hq, rfl⟩ := List.mem_map.mp hp
    exact .nil (hT _ (List.mem_map.mpr ⟨q.1, List.mem_map.mpr ⟨q, hq, rfl⟩, rfl⟩))
  · rcases hS with (h | h) | h
    · exact .inr (.inl ⟨h, rfl, fun z => z⟩)
    · exact .inl h
    · exact .inr (.inr h)
  · subst e; exact r
end VM

/-! VMP: backward steps through the shallow terms; data; ghosts on heaps. -/
namespace VM
open PySem PySem.Spec PyProof.Rows L2
section
variable {xc : XC} {d : Dn} {es : Es} {eh eh' : Eh} {q : KE} {ql : List EV → Eh → Prop} {qt : Bool → Eh → Prop} {qi : List EV → (Eh → Prop) → Eh → Prop} {qo : Option Int → Eh → Prop} {a b c : ME} {t u : MS} {mt mu : MT} {r : MA} {o o' : EO2} {x y z : EV} {i j n : Int}
theorem fn_i {N : Nat} {xs : List EV} (h : t xc { nx := fun _ eh => q .non eh, rt := q } (xs.map some ++ List.replicate (N - xs.length) none) eh) : fnOf N t xc xs eh q := h
theorem seq_i (h : t xc { d with nx := fun es' eh' => u xc d es' eh' } es eh) : sSeq t u xc d es eh := h
theorem next_i (h : d.nx es eh) : sNext xc d es eh := h
theorem brk_i (h : d.bk es eh) : sBreak xc d es eh := h
theorem cont_i (h : d.ct es eh) : sCont xc d es eh := h
theorem expr_i (h : a xc es eh fun _ eh1 => d.nx es eh1) : sExpr a xc d es eh := h
theorem ret_i (h : a xc es eh d.rt) : sRet a xc d es eh := h
theorem retN_i (h : d.rt .non eh) : sRetN xc d es eh := h
theorem set_i {k : Nat} (h : a xc es eh fun x eh1 => d.nx (es.set k (some x)) eh1) : sSet k a xc d es eh := h
theorem if_i (h : mt xc es eh fun b eh1 => cond b (t xc d es eh1) (u xc d es eh1)) : sIf mt t u xc d es eh := by
  have e : (fun (b : Bool) (eh1 : Eh) => cond b (t xc d es eh1) (u xc d es eh1)) = fun b eh1 => match b with | true => t xc d es eh1 | false => u xc d es eh1 := by funext b eh1; cases b <;> rfl
  rw [e] at h; exact h
theorem asg_i {g : Tg} (h : a xc es eh fun x eh1 => ∃ es', asg g x es = some es' ∧ d.nx es' eh1) : sAsg g a xc d es eh := h
theorem par_i {i j : Nat} (h : r xc es eh fun xs eh1 => ∃ x y, xs = [x, y] ∧ d.nx ((es.set i (some x)).set j (some y)) eh1) : sPar i j r xc d es eh := h
theorem fld_s {cn f : Str} (h : b xc es eh fun y eh1 => a xc es eh1 fun x eh2 => ∃ p fs, x = .ref p ∧ eh2 p = some (.ins cn fs) ∧ fs.length < 1000 ∧ d.nx es (eupd eh2 p (some (.ins cn (putE f y fs))))) : sFldE cn f a b xc d es eh := h
theorem dput_i (h : c xc es eh fun v eh1 => a xc es eh1 fun x eh2 => b xc es eh2 fun y eh3 => ∃ p kvs k, x = .ref p ∧ eh3 p = some (.dct kvs) ∧ keyE y = some k ∧ kvs.length < sizeLine ∧ d.nx es (eupd eh3 p (some (.dct (putKE kvs k v))))) : sDPutE a b c xc d es eh := h
theorem lput_i (h : c xc es eh fun v eh1 => a xc es eh1 fun x eh2 => b xc es eh2 fun y eh3 => ∃ p xs i j, x = .ref p ∧ eh3 p = some (.lst xs) ∧ y = .int i ∧ ixN xs.length i = some j ∧ d.nx es (eupd eh3 p (some (.lst (xs.set j v))))) : sLPutN a b c xc d es eh := h
theorem for_i {mi : MI} {g : Tg} (h : mi xc es eh fun xs ok eh1 => forL g t ok xc d xs es eh1) : sFor mi g t xc d es eh := h
theorem while_s {c : MT} {n : Nat} (h : c xc es eh fun k eh1 => cond k (t xc { d with nx := fun es1 eh1 => whileN c t xc d n es1 eh1, ct := fun es1 eh1 => whileN c t xc d n es1 eh1, bk := d.nx } es eh1) (d.nx es eh1)) : whileN c t xc d (n + 1) es eh := by
  have e : (fun (k : Bool) (eh1 : Eh) => cond k (t xc { d with nx := fun es1 eh1 => whileN c t xc d n es1 eh1, ct := fun es1 eh1 => whileN c t xc d n es1 eh1, bk := d.nx } es eh1) (d.nx es eh1)) = fun k eh1 => match k with
    | true => t xc { d with nx := fun es1 eh1 => whileN c t xc d n es1 eh1, ct := fun es1 eh1 => whileN c t xc d n es1 eh1, bk := d.nx } es eh1
    | false => d.nx es eh1 := by funext k eh1; cases k <;> rfl
  rw [e] at h; exact h
theorem while_i {c : MT} (n : Nat) (h : whileN c t xc d n es eh) : sWhile c t xc d es eh := ⟨n, h⟩
theorem forL_cons {g : Tg} {ok : Eh → Prop} {x : EV} {xs : List EV} {es' : Es} (h1 : ok eh) (h2 : asg g x es = some es') (h3 : t xc { d with nx := fun es1 eh1 => forL g t ok xc d xs es1 eh1, ct := fun es1 eh1 => forL g t ok xc d xs es1 eh1, bk := d.nx } es' eh) : forL g t ok xc d (x :: xs) es eh := ⟨h1, es', h2, h3⟩
theorem forL_nil {g : Tg} {ok : Eh → Prop} (h1 : ok eh) (h : d.nx es eh) : forL g t ok xc d [] es eh := ⟨h1, h⟩
theorem compL_cons {g : Tg} {tt : MT} {te : ME} {vs : List Nat} {ok : Eh → Prop} {x : EV} {xs acc : List EV} {es' : Es} (h1 : ok eh) (h2 : asg g x (wipeE es vs) = some es') (h3 : tt xF es' eh fun b eh1 => cond b (te xF es' eh1 fun y eh2 => acc.length < sizeLine ∧ compL g tt te vs ok q xs (acc ++ [y]) es eh2) (compL g tt te vs ok q xs acc es eh1)) : compL g tt te vs ok q (x :: xs) acc es eh := by
  refine ⟨h1, es', h2, ?_⟩
  have e : (fun (b : Bool) (eh1 : Eh) => cond b (te xF es' eh1 fun y eh2 => acc.length < sizeLine ∧ compL g tt te vs ok q xs (acc ++ [y]) es eh2) (compL g tt te vs ok q xs acc es eh1)) = fun b eh1 => match b with
    | true => te xF es' eh1 fun y eh2 => acc.length < sizeLine ∧ compL g tt te vs ok q xs (acc ++ [y]) es eh2
    | false => compL g tt te vs ok q xs acc es eh1 := by funext k eh1; cases k <;> rfl
  rw [e] at h3; exact h3
theorem compL_nil {g : Tg} {tt : MT} {te : ME} {vs : List Nat} {ok : Eh → Prop} {acc : List EV} (h1 : ok eh) (h : q (.lst acc) eh) : compL g tt te vs ok q [] acc es eh := ⟨h1, h⟩
/-! expressions -/
theorem c_i (h : q x eh) : mC x xc es eh q := h
theorem var_i {k : Nat} (e : es[k]? = some (some x)) (h : q x eh) : mVar k xc es eh q := by unfold mVar; rw [e]; exact h
theorem op_i (h : a xc es eh fun x eh1 => b xc es eh1 fun y eh2 => o x y eh2 q) : mOp o a b xc es eh q := h
theorem un_i {o : EO1} (h : a xc es eh fun x eh1 => o x eh1 q) : mUn o a xc es eh q := h
theorem chain_i (h : a xc es eh fun x eh1 => b xc es eh1 fun y eh2 => o x y eh2 fun z eh3 => ∃ k, z = .bl k ∧ cond k (c xc es eh3 fun w eh4 => o' y w eh4 q) (q (.bl false) eh3)) : mChain o o' a b c xc es eh q := by
  have e : ∀ y, (fun (z : EV) (eh3 : Eh) => ∃ k, z = .bl k ∧ cond k (c xc es eh3 fun w eh4 => o' y w eh4 q) (q (.bl false) eh3)) = fun z eh3 => match z with
    | .bl true => c xc es eh3 fun w eh4 => o' y w eh4 q
    | .bl false => q (.bl false) eh3
    | _ => False := fun y => by
      funext z eh3
      apply propext
      cases z with
      | bl k => cases k <;> simp
      | _ => simp
  simp only [e] at h; exact h
theorem ife_i (h : mt xc es eh fun k eh1 => cond k (a xc es eh1 q) (b xc es eh1 q)) : mIf mt a b xc es eh q := by
  have e : (fun (k : Bool) (eh1 : Eh) => cond k (a xc es eh1 q) (b xc es eh1 q)) = fun k eh1 => match k with | true => a xc es eh1 q | false => b xc es eh1 q := by funext k eh1; cases k <;> rfl
  rw [e] at h; exact h
theorem anil_i (h : ql [] eh) : aNil xc es eh ql := h
theorem acons_i (h : a xc es eh fun x eh1 => r xc es eh1 fun xs eh2 => ql (x :: xs) eh2) : aCons a r xc es eh ql := h
theorem astar_i (h : a xc es eh fun x eh1 => ∃ ys, seqE eh1 x = some ys ∧ r xc es eh1 fun xs eh2 => ql (ys ++ xs) eh2) : aStar a r xc es eh ql := h
theorem tup_i (h : r xc es eh fun xs eh1 => xs.length ≤ sizeLine ∧ q (.tup xs) eh1) : mTup r xc es eh q := h
theorem lst_i (h : r xc es eh fun xs eh1 => xs.length ≤ sizeLine ∧ q (.lst xs) eh1) : mLst r xc es eh q := h
theorem lstR_i (h : r xc es eh fun xs eh1 => xs.length ≤ sizeLine ∧ ∀ p, eh1 p = none → q (.ref p) (eupd eh1 p (some (.lst xs)))) : mLstR r xc es eh q := h
theorem fld_i {cn f : Str} (h : a xc es eh fun x eh1 => ∃ fs v, insE eh1 x = some (cn, fs) ∧ fs.lookup f = some v ∧ q v eh1) : mFld cn f a xc es eh q := h
theorem dnew_i (h : ∀ p, eh p = none → q (.ref p) (eupd eh p (some (.dct [])))) : mDNew xc es eh q := h
theorem cb_i {o : EOL} (h : r xc es eh fun xs eh1 => o xs eh1 q) : mCB o r xc es eh q := h
theorem bm_i {p : Eh → EV → Prop} {o : EV → EOL} (h : a xc es eh fun x eh1 => p eh1 x ∧ r xc es eh1 fun xs eh2 => o x xs eh2 q) : mBM p o a r xc es eh q := h
theorem sl_i {o : EOS} {lo hi} (h : a xc es eh fun x eh1 => lo xc es eh1 fun l eh2 => hi xc es eh2 fun h eh3 => o x l h eh3 q) : mSl o a lo hi xc es eh q := h
theorem no_i (h : qo none eh) : mNo xc es eh qo := h
theorem pt_i (h : a xc es eh fun x eh1 => ∃ i, x = .int i ∧ qo (some i) eh1) : mPt a xc es eh qo := by
  have e : (fun (x : EV) (eh1 : Eh) => ∃ i, x = .int i ∧ qo (some i) eh1) = fun x eh1 => match x with | .int i => qo (some i) eh1 | _ => False := by
    funext x eh1; apply propext; cases x <;> simp
  rw [e] at h; exact h
theorem call_i {F : FN} {m : Nat} {dx : List EV} (h : r xc es eh fun xs eh1 => (xs ++ dx).length = m ∧ F xc (xs ++ dx) eh1 q) : mCall F m dx r xc es eh q := h
theorem calln_i {F : FN} {N n m : Nat} {gE} {tk : MA} (h : r xc es eh fun xs eh1 => tk xc es eh1 fun zs eh2 => xs.length = n ∧ zs.length = m ∧ (gE xs zs).length = N ∧ F xc (gE xs zs) eh2 q) : mCallN F N n m gE r tk xc es eh q := h
theorem make_i {cn : Str} {F : FN} {m : Nat} {dx : List EV} (h : r xc es eh fun xs eh1 => (xs ++ dx).length + 1 = m ∧ ∀ p, eh1 p = none → F xc (.ref p :: (xs ++ dx)) (eupd eh1 p (some (.ins cn []))) fun v eh2 => v = .non ∧ q (.ref p) eh2) : mMake cn F m dx r xc es eh q := h
theorem prop_i {cn : Str} {F : FN} {m : Nat} {dx : List EV} (h : a xc es eh fun x eh1 => ∃ fs, insE eh1 x = some (cn, fs) ∧ dx.length + 1 = m ∧ F xc (x :: dx) eh1 q) : mProp cn F m dx a xc es eh q := h
theorem meth_i {cn mn : Str} {F : FN} {m : Nat} {dx : List EV} (h : a xc es eh fun x eh1 => ∃ fs, insE eh1 x = some (cn, fs) ∧ fs.lookup mn = none ∧ r xc es eh1 fun xs eh2 => (x :: (xs ++ dx)).length = m ∧ F xc (x :: (xs ++ dx)) eh2 q) : mMeth cn mn F m dx a r xc es eh q := h
theorem fz_i {k : Nat} (h : a xc es eh fun x eh1 => q (fz (nw eh) eh1 k x) (drE (nw eh) eh1)) : mFz k a xc es eh q := h
/-- a call whose result is frozen -/
def FZ (S : Addr → Bool) (F : FN) (xc : XC) (xs : List EV) (eh : Eh) (q : KE) : Prop := F xc xs eh fun x eh1 => q (fz S eh1 9 x) (drE S eh1)
def MZ (S : Addr → Bool) (cn : Str) (F : FN) (xc : XC) (xs : List EV) (eh : Eh) (q : KE) : Prop := ∀ p, eh p = none → F xc (.ref p :: xs) (eupd eh p (some (.ins cn []))) fun v eh2 => v = .non ∧ q (fz S eh2 9 (.ref p)) (drE S eh2)
theorem fzc_i {F : FN} {m : Nat} {dx : List EV} (h : r xc es eh fun xs eh1 => (xs ++ dx).length = m ∧ FZ (nw eh) F xc (xs ++ dx) eh1 q) : mFz 9 (mCall F m dx r) xc es eh q := h
theorem fzn_i {F : FN} {N n m : Nat} {gE} {tk : MA} (h : r xc es eh fun xs eh1 => tk xc es eh1 fun zs eh2 => xs.length = n ∧ zs.length = m ∧ (gE xs zs).length = N ∧ FZ (nw eh) F xc (gE xs zs) eh2 q) : mFz 9 (mCallN F N n m gE r tk) xc es eh q := h
theorem fzp_i {cn : Str} {F : FN} {m : Nat} {dx : List EV} (h : a xc es eh fun x eh1 => ∃ fs, insE eh1 x = some (cn, fs) ∧ dx.length + 1 = m ∧ FZ (nw eh) F xc (x :: dx) eh1 q) : mFz 9 (mProp cn F m dx a) xc es eh q := h
theorem fzm_i {cn mn : Str} {F : FN} {m : Nat} {dx : List EV} (h : a xc es eh fun x eh1 => ∃ fs, insE eh1 x = some (cn, fs) ∧ fs.lookup mn = none ∧ r xc es eh1 fun xs eh2 => (x :: (xs ++ dx)).length = m ∧ FZ (nw eh) F xc (x :: (xs ++ dx)) eh2 q) : mFz 9 (mMeth cn mn F m dx a r) xc es eh q := h
theorem fzk_i {cn : Str} {F : FN} {m : Nat} {dx : List EV} (h : r xc es eh fun xs eh1 => (xs ++ dx).length + 1 = m ∧ MZ (nw eh) cn F xc (xs ++ dx) eh1 q) : mFz 9 (mMake cn F m dx r) xc es eh q := h
theorem nw_eupd {p : Addr} {u : EO} (h : eh p ≠ none) : nw (eupd eh p (some u)) = nw eh := by
  funext c
  unfold nw eupd
  by_cases hc : c = p
  · subst hc; cases e : eh c <;> simp_all
  · simp [hc]
theorem fzF_i {k m : Nat} {cn f : Str} (h : ∃ p fs w, es[k]? = some (some (.ref p)) ∧ eh p = some (.ins cn fs) ∧ fs.lookup f = some (.ref w) ∧ w ≠ p ∧ t xc d es (eupd (drE (fun b => b == w) eh) p (some (.ins cn (putE f (fz (fun b => b == w) eh m (.ref w)) fs))))) : sFzF k cn f m t xc d es eh := h
theorem fzV_i {k : Nat} {p : Addr} {xs : List EV} (e1 : es[k]? = some (some (.ref p))) (e2 : eh p = some (.lst xs)) (h : t xc d (es.set k (some (.lst xs))) (eupd eh p none)) : sFzV k t xc d es eh := ⟨p, xs, e1, e2, h⟩
theorem methn_i {cn mn : Str} {F : FN} {N m : Nat} {gE} {tk : MA} (h : a xc es eh fun x eh1 => ∃ fs, insE eh1 x = some (cn, fs) ∧ fs.lookup mn = none ∧ tk xc es eh1 fun zs eh2 => zs.length = m ∧ (gE [x] zs).length = N ∧ FZ (nw eh) F xc (gE [x] zs) eh2 q) : mFz 9 (mMethN cn mn F N m gE a tk) xc es eh q := h
theorem max2_i (h : q (.int (if i < j then j else i)) eh) : bMax [.int i, .int j] eh q := h
theorem sortk_i (h : a xc es eh fun x eh1 => ∃ xs, lstE eh1 x = some xs ∧ xs.all isK0 = true ∧ q (.lst (sortK0 xs)) eh1) : mSortK0 a xc es eh q := h
theorem comp_i {mi : MI} {g : Tg} {tt : MT} {te : ME} {vs : List Nat} (h : mi xc es eh fun xs ok eh1 => compL g tt te vs ok q xs [] es eh1) : mComp mi g tt te vs xc es eh q := h
theorem comp2_i {mi mi1 : MI} {g g1 : Tg} {tt tt1 : MT} {te : ME} {vs vs1 : List Nat} (h : mi xc es eh fun xs ok eh1 => comp2L g tt mi1 g1 tt1 te vs vs1 ok q xs [] es eh1) : mComp2 mi g tt mi1 g1 tt1 te vs vs1 xc es eh q := h
/-! tests -/
theorem val_i (h : a xc es eh fun x eh1 => ∃ k, x = .bl k ∧ qt k eh1) : tVal a xc es eh qt := by
  have e : (fun (x : EV) (eh1 : Eh) => ∃ k, x = .bl k ∧ qt k eh1) = fun x eh1 => match x with | .bl b => qt b eh1 | _ => False := by
    funext x eh1; apply propext; cases x <;> simp
  rw [e] at h; exact h
theorem tru_i (h : a xc es eh fun x eh1 => ∃ k, truE eh1 x = some k ∧ qt k eh1) : tTru a xc es eh qt := by
  have e : (fun (x : EV) (eh1 : Eh) => ∃ k, truE eh1 x = some k ∧ qt k eh1) = fun x eh1 => match truE eh1 x with | some b => qt b eh1 | none => False := by
    funext x eh1; apply propext; cases truE eh1 x <;> simp
  rw [e] at h; exact h
theorem tand_i (h : mt xc es eh fun k eh1 => cond k (mu xc es eh1 qt) (qt false eh1)) : tAnd mt mu xc es eh qt := by
  have e : (fun (k : Bool) (eh1 : Eh) => cond k (mu xc es eh1 qt) (qt false eh1)) = fun k eh1 => match k with | true => mu xc es eh1 qt | false => qt false eh1 := by funext k eh1; cases k <;> rfl
  rw [e] at h; exact h
theorem tor_i (h : mt xc es eh fun k eh1 => cond k (qt true eh1) (mu xc es eh1 qt)) : tOr mt mu xc es eh qt := by
  have e : (fun (k : Bool) (eh1 : Eh) => cond k (qt true eh1) (mu xc es eh1 qt)) = fun k eh1 => match k with | true => qt true eh1 | false => mu xc es eh1 qt := by funext k eh1; cases k <;> rfl
  rw [e] at h; exact h
theorem tnot_i (h : mt xc es eh fun k eh1 => qt (!k) eh1) : tNot mt xc es eh qt := h
theorem tyes_i (h : qt true eh) : tYesE xc es eh qt := h
theorem mand_i (h : a xc es eh fun x eh1 => ∃ k, x = .bl k ∧ cond k (b xc es eh1 q) (q (.bl false) eh1)) : mAnd a b xc es eh q := by
  have e : (fun (x : EV) (eh1 : Eh) => ∃ k, x = .bl k ∧ cond k (b xc es eh1 q) (q (.bl false) eh1)) = fun x eh1 => match x with | .bl true => b xc es eh1 q | .bl false => q (.bl false) eh1 | _ => False := by
    funext x eh1; apply propext
    cases x with
    | bl k => cases k <;> simp
    | _ => simp
  rw [e] at h; exact h
theorem mor_i (h : a xc es eh fun x eh1 => ∃ k, x = .bl k ∧ cond k (q (.bl true) eh1) (b xc es eh1 q)) : mOr a b xc es eh q := by
  have e : (fun (x : EV) (eh1 : Eh) => ∃ k, x = .bl k ∧ cond k (q (.bl true) eh1) (b xc es eh1 q)) = fun x eh1 => match x with | .bl true => q (.bl true) eh1 | .bl false => b xc es eh1 q | _ => False := by
    funext x eh1; apply propext
    cases x with
    | bl k => cases k <;> simp
    | _ => simp
  rw [e] at h; exact h
theorem mnot_i (h : a xc es eh fun x eh1 => ∃ k, x = .bl k ∧ q (.bl (!k)) eh1) : mNot a xc es eh q := by
  have e : (fun (x : EV) (eh1 : Eh) => ∃ k, x = .bl k ∧ q (.bl (!k)) eh1) = fun x eh1 => match x with | .bl c => q (.bl (!c)) eh1 | _ => False := by
    funext x eh1; apply propext; cases x <;> simp
  rw [e] at h; exact h
/-! values -/
theorem bl_i {k : Bool} {P : Bool → Prop} (h : P k) : ∃ k', EV.bl k = .bl k' ∧ P k' := ⟨k, rfl, h⟩
theorem cT_i {A B : Prop} (h : A) : cond true A B := h
theorem cF_i {A B : Prop} (h : B) : cond false A B := h
theorem cD_i {p : Prop} [Decidable p] {A B : Prop} (h1 : p → A) (h2 : ¬ p → B) : cond (decide p) A B := by by_cases hp : p <;> simp [hp, h1, h2]
theorem cN_i {p : Prop} [Decidable p] {A B : Prop} (h1 : ¬ p → A) (h2 : p → B) : cond (!decide p) A B := by by_cases hp : p <;> simp [hp, h1, h2]
theorem cB_i {k : Bool} {A B : Prop} (h1 : k = true → A) (h2 : k = false → B) : cond k A B := by cases k <;> simp_all
theorem add_i (h : q (.int (i + j)) eh) : oAdd (.int i) (.int j) eh q := h
theorem sub_i (h : q (.int (i - j)) eh) : oSub (.int i) (.int j) eh q := h
theorem mul_i (c : MulC i j) (h : q (.int (i * j)) eh) : oMul (.int i) (.int j) eh q := ⟨c, h⟩
theorem div_i (c : 0 < j ∧ j.natAbs.log2 < 9000) (h : q (.int (i / j)) eh) : oDiv (.int i) (.int j) eh q := ⟨c, h⟩
theorem mod_i (c : 0 < j) (h : q (.int (i % j)) eh) : oMod (.int i) (.int j) eh q := ⟨c, h⟩
theorem pow_i (c : 0 ≤ j ∧ (Builtin.Int.intBits i : Int) * j ≤ 2 ^ 27) (h : q (.int (i ^ j.toNat)) eh) : oPow (.int i) (.int j) eh q := ⟨c, h⟩
theorem neg_i (h : q (.int (-i)) eh) : oNeg (.int i) eh q := h
theorem lt_i (h : q (.bl (decide (i < j))) eh) : oLt (.int i) (.int j) eh q := h
theorem le_i (h : q (.bl (decide (i ≤ j))) eh) : oLe (.int i) (.int j) eh q := h
theorem gt_i (h : q (.bl (decide (j < i))) eh) : oGt (.int i) (.int j) eh q := h
theorem ge_i (h : q (.bl (decide (j ≤ i))) eh) : oGe (.int i) (.int j) eh q := h
theorem eqI_i (h : q (.bl (decide (i = j))) eh) : cEq false (.int i) (.int j) eh q := by unfold cEq; simpa using h
theorem neI_i (h : q (.bl (!decide (i = j))) eh) : cEq true (.int i) (.int j) eh q := by unfold cEq; simpa using h
theorem eqS_i {s s' : Str} (h : q (.bl (decide (s = s'))) eh) : cEq false (.str s) (.str s') eh q := by unfold cEq; simpa using h
theorem int_i (h : q (.int i) eh) : bInt [.int i] eh q := h
theorem abs_i (h : q (.int (if i < 0 then -i else i)) eh) : bAbs [.int i] eh q := h
theorem min2_i (h : q (.int (if j < i then j else i)) eh) : bMin [.int i, .int j] eh q := h
theorem ix_i {xs : List EV} (e : seqE eh x = some xs) (ez : atI xs i = some z) (h : q z eh) : oIx x (.int i) eh q := by
  unfold oIx
  cases x <;> first | exact .inl ⟨_, _, _, e, rfl, ez, h⟩ | (simp [seqE] at e)
theorem ixd_i {kvs : List (Key × EV)} {k : Key} (e : dctE eh x = some kvs) (ek : keyE y = some k) (ez : getK kvs k = some z) (h : q z eh) : oIx x y eh q := by
  unfold oIx
  cases x <;> first | exact .inr ⟨_, _, _, e, ek, ez, h⟩ | (simp [dctE] at e)
theorem len_i {xs : List EV} (e : seqE eh x = some xs) (h : q (.int xs.length) eh) : bLen [x] eh q := by
  unfold bLen
  cases x <;> first | exact .inl ⟨_, e, h⟩ | (simp [seqE] at e)
theorem lenS_i {s : Str} (e : s.length ≤ sizeLine) (h : q (.int s.length) eh) : bLen [.str s] eh q := ⟨e, h⟩
theorem tuple_i {xs : List EV} (e : seqE eh x = some xs) (h : q (.tup xs) eh) : bTuple [x] eh q := by
  unfold bTuple
  cases x <;> first | exact ⟨_, e, h⟩ | (cases e; exact h)
theorem list_i {xs : List EV} (e : seqE eh x = some xs) (h : q (.lst xs) eh) : bList [x] eh q := ⟨_, e, h⟩
theorem listR_i {xs : List EV} (e : seqE eh x = some xs) (h : ∀ p, eh p = none → q (.ref p) (eupd eh p (some (.lst xs)))) : bListR [x] eh q := ⟨_, e, h⟩
theorem any_i {m : ME} (h : m xc es eh fun x eh1 => ∃ xs ok, walkE eh1 x = some (xs, ok) ∧ qi xs ok eh1) : iAny m xc es eh qi := h
theorem rng1_i {m : MA} (h : m xc es eh fun xs eh1 => ∃ j, xs = [.int j] ∧ (-(2 ^ 62) ≤ j ∧ j < 2 ^ 62) ∧ qi ((List.range j.toNat).map fun (i : Nat) => .int (i : Int)) (fun _ => True) eh1) : iRange1 m xc es eh qi := by
  have e : (fun (xs : List EV) (eh1 : Eh) => ∃ j, xs = [.int j] ∧ (-(2 ^ 62) ≤ j ∧ j < 2 ^ 62) ∧ qi ((List.range j.toNat).map fun (i : Nat) => .int (i : Int)) (fun _ => True) eh1) = fun xs eh1 => match xs with
    | [.int j] => (-(2 ^ 62) ≤ j ∧ j < 2 ^ 62) ∧ qi ((List.range j.toNat).map fun (i : Nat) => .int (i : Int)) (fun _ => True) eh1
    | _ => False := by
    funext xs eh1; apply propext
    split
    · constructor
      · rintro ⟨j, e, h⟩; cases e; exact h
      · exact fun h => ⟨_, rfl, h⟩
    · rename_i hn
      constructor
      · rintro ⟨j, e, _⟩; exact hn j e
      · exact False.elim
  rw [e] at h; exact h
theorem enum_i {m : MA} (h : m xc es eh fun xs eh1 => ∃ x ys ok, xs = [x] ∧ srcL eh1 x = some (ys, ok) ∧ qi (ys.mapIdx fun i x => .tup [.int (i : Nat), x]) ok eh1) : iEnumM m xc es eh qi := by
  have e : (fun (xs : List EV) (eh1 : Eh) => ∃ x ys ok, xs = [x] ∧ srcL eh1 x = some (ys, ok) ∧ qi (ys.mapIdx fun i x => .tup [.int (i : Nat), x]) ok eh1) = fun xs eh1 => match xs with
    | [x] => ∃ ys ok, srcL eh1 x = some (ys, ok) ∧ qi (ys.mapIdx fun i x => .tup [.int (i : Nat), x]) ok eh1
    | _ => False := by
    funext xs eh1; apply propext
    split
    · constructor
      · rintro ⟨j, ys, ok, e, h⟩; cases e; exact ⟨_, _, h⟩
      · rintro ⟨ys, ok, h⟩; exact ⟨_, ys, ok, rfl, h⟩
    · rename_i hn
      constructor
      · rintro ⟨j, _, _, e, _⟩; exact hn j e
      · exact False.elim
  rw [e] at h; exact h
def zipP (qi : List EV → (Eh → Prop) → Eh → Prop) (xs : List EV) (eh1 : Eh) : Prop := match xs with
  | [x, y] => (∃ xs ys, srcT x = some xs ∧ srcT y = some ys ∧ qi ((xs.zip ys).map fun p => .tup [p.1, p.2]) (fun _ => True) eh1) ∨
      ∃ xs ys ok ok', srcL eh1 x = some (xs, ok) ∧ srcL eh1 y = some (ys, ok') ∧ qi ((xs.zip ys).map fun p => .tup [p.1, p.2]) (fun h => ok h ∧ ok' h) eh1
  | _ => False
theorem zip_i {m : MA} (h : m xc es eh fun xs eh1 => zipP qi xs eh1) : iZipM m xc es eh qi := h
theorem zipT_i {us vs : List EV} (h : qi ((us.zip vs).map fun p => .tup [p.1, p.2]) (fun _ => True) eh) : zipP qi [.tup us, .tup vs] eh := .inl ⟨us, vs, rfl, rfl, h⟩
theorem items_i {m : ME} (h : m xc es eh fun x eh1 => ∃ kvs, x = .dct kvs ∧ qi (kvs.map fun p => .tup [keyV p.1, p.2]) (fun _ => True) eh1) : iItemsM m xc es eh qi := by
  have e : (fun (x : EV) (eh1 : Eh) => ∃ kvs, x = .dct kvs ∧ qi (kvs.map fun p => .tup [keyV p.1, p.2]) (fun _ => True) eh1) = fun x eh1 => match x with
    | .dct kvs => qi (kvs.map fun p => .tup [keyV p.1, p.2]) (fun _ => True) eh1
    | _ => False := by
    funext x eh1; apply propext; cases x <;> simp
  rw [e] at h; exact h
theorem drE_same {a : Addr} {s : EO} (h : eh a ≠ none) : drE (nw eh) (eupd eh a (some s)) = eupd eh a (some s) := by
  funext b
  unfold drE nw eupd
  by_cases hb : b = a
  · subst hb; cases e : eh b <;> simp_all
  · cases e : eh b <;> simp [hb, e]
theorem drE_self : drE (nw eh) eh = eh := by
  funext b
  unfold drE nw
  cases e : eh b <;> simp [e]
end
end VM

/-! VMQ: comprehensions and loops at once: maps, filters, invariants; equality of data. -/
namespace VM
open PySem PySem.Spec PyProof.Rows L2
theorem szL {n : Nat} (h : n ≤ 5000) : n ≤ sizeLine := Nat.le_trans h (by decide)
theorem szT {n : Nat} (h : n ≤ 5000) : n < sizeLine := Nat.lt_of_le_of_lt h (by decide)
section
variable {xc : XC} {d : Dn} {es : Es} {eh eh' : Eh} {q : KE} {qt : Bool → Eh → Prop} {g : Tg} {te : ME} {tt : MT} {t : MS} {vs : List Nat} {ok : Eh → Prop} {α : Type}
/-- an element that is a function of the item -/
theorem comp_map {c f : α → EV} : ∀ {L : List α} {acc : List EV}, ok eh → acc.length + L.length ≤ 5000 → (∀ a ∈ L, ∃ es', asg g (c a) (wipeE es vs) = some es' ∧ ∀ q' : KE, q' (f a) eh → te xF es' eh q') → q (.lst (acc ++ L.map f)) eh →
    compL g tYesE te vs ok q (L.map c) acc es eh
  | [], acc, ho, _, _, k => ⟨ho, by simpa using k⟩
  | a :: L, acc, ho, hl, h, k => by
    simp only [List.length_cons] at hl
    obtain ⟨es', e, b⟩ := h a (by simp)
    exact ⟨ho, es', e, b _ ⟨szT (by omega), comp_map ho (by simp; omega) (fun x hx => h x (by simp [hx])) (by simpa using k)⟩⟩
/-- with a test that is a function of the item -/
theorem comp_filter {c f : α → EV} {p : α → Bool} : ∀ {L : List α} {acc : List EV}, ok eh → acc.length + L.length ≤ 5000 →
    (∀ a ∈ L, ∃ es', asg g (c a) (wipeE es vs) = some es' ∧ (∀ qt : Bool → Eh → Prop, qt (p a) eh → tt xF es' eh qt) ∧ (p a = true → ∀ q' : KE, q' (f a) eh → te xF es' eh q')) → q (.lst (acc ++ (L.filter p).map f)) eh →
    compL g tt te vs ok q (L.map c) acc es eh
  | [], acc, ho, _, _, k => ⟨ho, by simpa using k⟩
  | a :: L, acc, ho, hl, h, k => by
    simp only [List.length_cons] at hl
    obtain ⟨es', e, b, b'⟩ := h a (by simp)
    refine ⟨ho, es', e, b _ ?_⟩
    cases hp : p a with
    | true => exact b' hp _ ⟨szT (by omega), comp_filter ho (by simp; omega) (fun x hx => h x (by simp [hx])) (by simpa [hp] using k)⟩
    | false => exact comp_filter ho (by omega) (fun x hx => h x (by simp [hx])) (by simpa [hp] using k)
/-- elements that change the heap -/
theorem comp_inv {c : α → EV} (J : List EV → List α → Eh → Prop) : ∀ {L : List α} {acc : List EV} {eh : Eh}, J acc L eh → acc.length + L.length ≤ 5000 →
    (∀ acc a L eh, J acc (a :: L) eh → ok eh ∧ ∃ es', asg g (c a) (wipeE es vs) = some es' ∧ ∀ q' : KE, (∀ y eh', J (acc ++ [y]) L eh' → q' y eh') → te xF es' eh q') → (∀ acc eh, J acc [] eh → ok eh ∧ q (.lst acc) eh) →
    compL g tYesE te vs ok q (L.map c) acc es eh
  | [], acc, eh, h, _, _, k => k _ _ h
  | a :: L, acc, eh, h, hl, st, k => by
    simp only [List.length_cons] at hl
    obtain ⟨ho, es', e, b⟩ := st _ _ _ _ h
    exact ⟨ho, es', e, b _ fun y eh' h' => ⟨szT (by omega), comp_inv J h' (by simp; omega) st k⟩⟩
/-- the same with a test -/
theorem comp_invT {c : α → EV} (J : List EV → List α → Eh → Prop) : ∀ {L : List α} {acc : List EV} {eh : Eh}, J acc L eh → acc.length + L.length ≤ 5000 →
    (∀ acc a L eh, J acc (a :: L) eh → ok eh ∧ ∃ es', asg g (c a) (wipeE es vs) = some es' ∧ ∀ (qt : Bool → Eh → Prop), (∀ b eh', (b = true → ∀ q' : KE, (∀ y eh', J (acc ++ [y]) L eh' → q' y eh') → te xF es' eh' q') → (b = false → J acc L eh') → qt b eh') → tt xF es' eh qt) →
    (∀ acc eh, J acc [] eh → ok eh ∧ q (.lst acc) eh) →
    compL g tt te vs ok q (L.map c) acc es eh
  | [], acc, eh, h, _, _, k => k _ _ h
  | a :: L, acc, eh, h, hl, st, k => by
    simp only [List.length_cons] at hl
    obtain ⟨ho, es', e, b⟩ := st _ _ _ _ h
    refine ⟨ho, es', e, b _ fun x eh1 h1 h2 => ?_⟩
    cases x with
    | true => exact h1 rfl _ fun y eh' h' => ⟨szT (by omega), comp_invT J h' (by simp; omega) st k⟩
    | false => exact comp_invT J (h2 rfl) (by omega) st k
/-- two sources, functions of the items -/
theorem comp2In_map {β : Type} {c f : β → EV} {k : List EV → Eh → Prop} : ∀ {L : List β} {acc : List EV}, ok eh → acc.length + L.length ≤ 5000 → (∀ a ∈ L, ∃ es', asg g (c a) (wipeE es vs) = some es' ∧ ∀ q' : KE, q' (f a) eh → te xF es' eh q') → k (acc ++ L.map f) eh →
    comp2In g tYesE te vs ok k (L.map c) acc es eh
  | [], acc, ho, _, _, k => ⟨ho, by simpa using k⟩
  | a :: L, acc, ho, hl, h, k => by
    simp only [List.length_cons] at hl
    obtain ⟨es', e, b⟩ := h a (by simp)
    exact ⟨ho, es', e, b _ ⟨szT (by omega), comp2In_map ho (by simp; omega) (fun x hx => h x (by simp [hx])) (by simpa using k)⟩⟩
theorem comp2_map {β : Type} {mi1 : MI} {g1 : Tg} {vs1 : List Nat} {c : α → EV} {l : α → List β} {c1 : α → β → EV} {f : α → β → EV} : ∀ {L : List α} {acc : List EV}, ok eh → acc.length + (L.map fun a => (l a).length).sum ≤ 5000 →
    (∀ a ∈ L, ∃ es', asg g (c a) (wipeE es vs) = some es' ∧ ∀ qi : List EV → (Eh → Prop) → Eh → Prop, (∀ ok1 : Eh → Prop, ok1 eh → qi ((l a).map (c1 a)) ok1 eh) → mi1 xF es' eh qi) →
    (∀ a ∈ L, ∀ es', asg g (c a) (wipeE es vs) = some es' → ∀ b ∈ l a, ∃ es2, asg g1 (c1 a b) (wipeE es' vs1) = some es2 ∧ ∀ q' : KE, q' (f a b) eh → te xF es2 eh q') →
    q (.lst (acc ++ L.flatMap fun a => (l a).map (f a))) eh →
    comp2L g tYesE mi1 g1 tYesE te vs vs1 ok q (L.map c) acc es eh
  | [], acc, ho, _, _, _, k => ⟨ho, by simpa using k⟩
  | a :: L, acc, ho, hl, h1, h2, k => by
    simp only [List.map_cons, List.sum_cons] at hl
    obtain ⟨es', e, b⟩ := h1 a (by simp)
    refine ⟨ho, es', e, b _ fun ok1 o1 => ?_⟩
    refine comp2In_map o1 (by omega) (fun y hy => h2 a (by simp) es' e y hy) ?_
    exact comp2_map ho (by simp; omega) (fun x hx => h1 x (by simp [hx])) (fun x hx => h2 x (by simp [hx])) (by simpa using k)
/-- a loop by its invariant: what is left, the slots, the heap -/
theorem for_inv {c : α → EV} (J : List α → Es → Eh → Prop) : ∀ {L : List α} {es : Es} {eh : Eh}, J L es eh →
    (∀ a L es eh, J (a :: L) es eh → ok eh ∧ ∃ es', asg g (c a) es = some es' ∧ ∀ d' : Dn, d'.rt = d.rt → (∀ es1 eh1, J L es1 eh1 → d'.nx es1 eh1) → (∀ es1 eh1, J L es1 eh1 → d'.ct es1 eh1) → (∀ es1 eh1, d.nx es1 eh1 → d'.bk es1 eh1) → t xc d' es' eh) →
    (∀ es eh, J [] es eh → ok eh ∧ d.nx es eh) → forL g t ok xc d (L.map c) es eh
  | [], es, eh, h, _, k => k _ _ h
  | a :: L, es, eh, h, st, k => by
    obtain ⟨ho, es', e, b⟩ := st _ _ _ _ h
    exact ⟨ho, es', e, b _ rfl (fun es1 eh1 h1 => for_inv J h1 st k) (fun es1 eh1 h1 => for_inv J h1 st k) fun es1 eh1 h => h⟩
/-- a while loop by a measure -/
theorem whileN_inv {c : MT} (J : Nat → Es → Eh → Prop)
    (st : ∀ n es eh, J n es eh → ∀ qt : Bool → Eh → Prop, (∀ b eh1, (b = true → ∀ d' : Dn, d'.rt = d.rt → (∀ m es1 eh1, m < n → J m es1 eh1 → d'.nx es1 eh1) → (∀ m es1 eh1, m < n → J m es1 eh1 → d'.ct es1 eh1) → (∀ es1 eh1, d.nx es1 eh1 → d'.bk es1 eh1) → t xc d' es eh1) → (b = false → d.nx es eh1) → qt b eh1) → c xc es eh qt) :
    ∀ (N n : Nat) {es : Es} {eh : Eh}, n < N → J n es eh → whileN c t xc d N es eh
  | 0, _, _, _, h, _ => absurd h (Nat.not_lt_zero _)
  | N + 1, n, es, eh, h, j => by
    refine st n es eh j _ fun b eh1 h1 h2 => ?_
    cases b with
    | true => exact h1 rfl _ rfl (fun m es1 eh1 hm jm => whileN_inv J st N m (by omega) jm) (fun m es1 eh1 hm jm => whileN_inv J st N m (by omega) jm) fun es1 eh1 h => h
    | false => exact h2 rfl
theorem while_inv {c : MT} (J : Nat → Es → Eh → Prop) (n : Nat) (j : J n es eh)
    (st : ∀ n es eh, J n es eh → ∀ qt : Bool → Eh → Prop, (∀ b eh1, (b = true → ∀ d' : Dn, d'.rt = d.rt → (∀ m es1 eh1, m < n → J m es1 eh1 → d'.nx es1 eh1) → (∀ m es1 eh1, m < n → J m es1 eh1 → d'.ct es1 eh1) → (∀ es1 eh1, d.nx es1 eh1 → d'.bk es1 eh1) → t xc d' es eh1) → (b = false → d.nx es eh1) → qt b eh1) → c xc es eh qt) :
    sWhile c t xc d es eh := ⟨n + 1, whileN_inv J st _ n (Nat.lt_succ_self n) j⟩
end
/-! ### equality of data -/
/-- data without truth values, at most so deep -/
def okD : Nat → EV → Bool
  | _, .non => true
  | _, .int _ => true
  | _, .str _ => true
  | n + 1, .tup xs => xs.all (okD n)
  | n + 1, .lst xs => xs.all (okD n)
  | _, _ => false
/-- with truth values -/
def okB : Nat → EV → Bool
  | _, .non => true
  | _, .bl _ => true
  | _, .int _ => true
  | _, .str _ => true
  | n + 1, .tup xs => xs.all (okB n)
  | n + 1, .lst xs => xs.all (okB n)
  | _, _ => false
theorem okB_of : ∀ {n : Nat} {x : EV}, okD n x = true → okB n x = true
  | n, .non, _ => by cases n <;> rfl
  | n, .int _, _ => by cases n <;> rfl
  | n, .str _, _ => by cases n <;> rfl
  | n + 1, .tup xs, h => List.all_eq_true.mpr fun y hy => okB_of (List.all_eq_true.mp (show xs.all (okD n) = true from h) y hy)
  | n + 1, .lst xs, h => List.all_eq_true.mpr fun y hy => okB_of (List.all_eq_true.mp (show xs.all (okD n) = true from h) y hy)
  | 0, .tup _, h => by cases h
  | 0, .lst _, h => by cases h
  | n, .bl _, h => by cases n <;> cases h
  | n, .ty _, h => by cases n <;> cases h
  | n, .ref _, h => by cases n <;> cases h
  | n, .glo _, h => by cases n <;> cases h
  | n, .scr _, h => by cases n <;> cases h
  | n, .dct _, h => by cases n <;> cases h
  | n, .obj _ _, h => by cases n <;> cases h
  | n, .exc _ _, h => by cases n <;> cases h
  | n, .exa _ _ _, h => by cases n <;> cases h
structure DOk (n : Nat) (x : EV) : Prop where
  d : isD x = true
  p : (D x).plain = true
  z : (D x).depth ≤ n
theorem DOk.all {n : Nat} : ∀ {xs : List EV}, (∀ x ∈ xs, DOk n x) → isDL xs = true ∧ PyData.plainAll (DL xs) = true ∧ PyData.depthAll (DL xs) ≤ n
  | [], _ => ⟨rfl, rfl, Nat.zero_le _⟩
  | x :: xs, h => by
    have a := h x (by simp)
    obtain ⟨b1, b2, b3⟩ := DOk.all (xs := xs) fun y hy => h y (by simp [hy])
    refine ⟨by simp [isDL, a.d, b1], by simp [DL, PyData.plainAll, a.p, b2], ?_⟩
    simp only [DL, PyData.depthAll]
    exact Nat.max_le.mpr ⟨a.z, b3⟩
theorem DOk.of : ∀ {n : Nat} {x : EV}, okB n x = true → DOk n x
  | n, .non, _ => ⟨rfl, rfl, Nat.zero_le _⟩
  | n, .bl _, _ => ⟨rfl, rfl, Nat.zero_le _⟩
  | n, .int _, _ => ⟨rfl, rfl, Nat.zero_le _⟩
  | n, .str _, _ => ⟨rfl, rfl, Nat.zero_le _⟩
  | n + 1, .tup xs, h => by
    obtain ⟨a, b, c⟩ := DOk.all (n := n) (xs := xs) fun y hy => DOk.of (List.all_eq_true.mp (show xs.all (okB n) = true from h) y hy)
    exact ⟨a, b, Nat.succ_le_succ c⟩
  | n + 1, .lst xs, h => by
    obtain ⟨a, b, c⟩ := DOk.all (n := n) (xs := xs) fun y hy => DOk.of (List.all_eq_true.mp (show xs.all (okB n) = true from h) y hy)
    exact ⟨a, b, Nat.succ_le_succ c⟩
  | 0, .tup _, h => by cases h
  | 0, .lst _, h => by cases h
  | n, .ty _, h => by cases n <;> cases h
  | n, .ref _, h => by cases n <;> cases h
  | n, .glo _, h => by cases n <;> cases h
  | n, .scr _, h => by cases n <;> cases h
  | n, .dct _, h => by cases n <;> cases h
  | n, .obj _ _, h => by cases n <;> cases h
  | n, .exc _ _, h => by cases n <;> cases h
  | n, .exa _ _ _, h => by cases n <;> cases h
theorem eqvAll_iff {n : Nat} (ih : ∀ x y, okD n x = true → okD n y = true → (PyData.eqv (D x) (D y) = true ↔ x = y)) : ∀ {xs ys : List EV}, xs.all (okD n) = true → ys.all (okD n) = true → (PyData.eqvAll (DL xs) (DL ys) = true ↔ xs = ys)
  | [], [], _, _ => by simp [DL, PyData.eqvAll]
  | [], _ :: _, _, _ => by simp [DL, PyData.eqvAll]
  | _ :: _, [], _, _ => by simp [DL, PyData.eqvAll]
  | x :: xs, y :: ys, h, h' => by
    simp only [List.all_cons, Bool.and_eq_true] at h h'
    simp only [DL, PyData.eqvAll, Bool.and_eq_true, ih x y h.1 h'.1, eqvAll_iff ih h.2 h'.2, List.cons.injEq]
theorem eqv_iff : ∀ {n : Nat} {x y : EV}, okD n x = true → okD n y = true → (PyData.eqv (D x) (D y) = true ↔ x = y) := by
  intro n
  induction n with
  | zero =>
    intro x y hx hy
    cases x <;> first | (cases hx; done) | skip
    all_goals (cases y <;> first | (cases hy; done) | simp [D, PyData.eqv])
  | succ n ih =>
    intro x y hx hy
    have key := fun xs ys => eqvAll_iff (n := n) (fun x y => ih (x := x) (y := y)) (xs := xs) (ys := ys)
    cases x <;> first | (cases hx; done) | skip
    all_goals (cases y <;> first | (cases hy; done) | skip)
    all_goals first | (simp [D, PyData.eqv]; done) | skip
    · rename_i xs ys; simp only [D, PyData.eqv, EV.tup.injEq]; exact key xs ys hx hy
    · rename_i xs ys; simp only [D, PyData.eqv, EV.lst.injEq]; exact key xs ys hx hy
/-- a value as frozen data: an explicit list of frozen data is read -/
def froE (eh : Eh) : EV → EV
  | .ref a => match eh a with | some (.lst xs) => .lst xs | _ => .ref a
  | .scr ns => .lst (ns.map .int)
  | x => x
theorem dat_fro {eh : Eh} {n : Nat} {x : EV} (h : okB n (froE eh x) = true) : Dat eh x (D (froE eh x)) ∧ (D (froE eh x)).plain = true ∧ (D (froE eh x)).depth ≤ n := by
  have k := DOk.of h
  refine ⟨?_, k.p, k.z⟩
  have z := Dat.of eh k.d
  cases x with
  | ref a =>
    cases e : eh a with
    | none => have f : froE eh (.ref a) = .ref a := by simp [froE, e]
              rw [f] at k; exact absurd k.d (by simp [isD])
    | some o =>
      cases o with
      | lst xs => have f : froE eh (.ref a) = .lst xs := by simp [froE, e]
                  rw [f] at z ⊢; cases z with | lst hl hd => exact .ref e hl hd
      | dct xs => have f : froE eh (.ref a) = .ref a := by simp [froE, e]
                  rw [f] at k; exact absurd k.d (by simp [isD])
      | ins C fs => have f : froE eh (.ref a) = .ref a := by simp [froE, e]
                    rw [f] at k; exact absurd k.d (by simp [isD])
  | scr ns =>
    have e : D (froE eh (.scr ns)) = .list (ns.map .int) := by
      show PyData.list (DL (ns.map .int)) = _
      rw [DL_map, List.map_map]; rfl
    rw [e]; exact .scr ns
  | _ => exact z
section
variable {eh : Eh} {q : KE} {x y x' y' : EV} {neg : Bool} {n m : Nat}
theorem beq_dec {α : Type} [BEq α] [LawfulBEq α] [DecidableEq α] (a b : α) : (a == b) = decide (a = b) := by
  by_cases h : a = b <;> simp [h]
theorem ceq_of {d e : PyData} (hd : Dat eh x d) (he : Dat eh y e) (pd : d.plain = true) (pe : e.plain = true) (z : min d.depth e.depth ≤ 60) (k : q (.bl (neg ^^ PyData.eqv d e)) eh) : cEq neg x y eh q := by
  unfold cEq
  split
  · cases hd; cases he; simpa [PyData.eqv, beq_dec] using k
  · cases hd; cases he; simpa [PyData.eqv, beq_dec] using k
  · cases hd; cases he; simpa [PyData.eqv, beq_dec] using k
  · cases hd; cases he; simpa [PyData.eqv, beq_dec] using k
  · exact ⟨d, e, hd, he, pd, pe, z, k⟩
/-- x == y of data -/
theorem eq_i (b : Bool) (ex : froE eh x = x') (ey : froE eh y = y') (hx : okD n x' = true) (hy : okD m y' = true) (hn : n ≤ 60) (hm : m ≤ n) (hb : b = true ↔ x' = y') (k : q (.bl (neg ^^ b)) eh) : cEq neg x y eh q := by
  subst ex; subst ey
  obtain ⟨d1, p1, z1⟩ := dat_fro (okB_of hx)
  obtain ⟨d2, p2, z2⟩ := dat_fro (okB_of hy)
  refine ceq_of d1 d2 p1 p2 (by omega) ?_
  have up : ∀ {m n : Nat} {x : EV}, m ≤ n → okD m x = true → okD n x = true := by
    intro m
    induction m with
    | zero => intro n x _ h; cases x <;> first | (cases h; done) | (cases n <;> rfl)
    | succ m ih =>
      intro n x l h
      obtain ⟨n, rfl⟩ : ∃ n', n = n' + 1 := ⟨n - 1, by omega⟩
      cases x <;> first | (cases h; done) | rfl | exact List.all_eq_true.mpr fun y hy => ih (by omega) (List.all_eq_true.mp h y hy)
  have e := (eqv_iff hx (up hm hy)).trans hb.symm
  have : PyData.eqv (D (froE eh x)) (D (froE eh y)) = b := by cases b <;> simp_all
  rw [this]; exact k
theorem neS_same {s : Str} (k : q (.bl false) eh) : cEq true (.str s) (.str s) eh q := by unfold cEq; simpa using k
theorem eqS_str {s : Str} (k : q (.bl true) eh) : cEq false (.str s) (.str s) eh q := by unfold cEq; simpa using k
/-- the same data -/
theorem eqS_same (ex : froE eh x = x') (ey : froE eh y = x') (hx : okB n x' = true) (hn : n ≤ 60) (k : q (.bl (neg ^^ true)) eh) : cEq neg x y eh q := by
  obtain ⟨d1, p1, z1⟩ := dat_fro (eh := eh) (x := x) (by rw [ex]; exact hx)
  obtain ⟨d2, p2, z2⟩ := dat_fro (eh := eh) (x := y) (by rw [ey]; exact hx)
  rw [ex] at d1 p1 z1
  rw [ey] at d2 p2 z2
  refine ceq_of d1 d2 p1 p2 (by omega) ?_
  have : PyData.eqv (D x') (D x') = true := SeqAt.eqv_refl_plain _ p1
  rw [this]; exact k
end
/-! ### frozen data -/
theorem fz_okB {S : Addr → Bool} {eh : Eh} : ∀ {n k : Nat} {x : EV}, okB n x = true → fz S eh k x = x
  | _, 0, _, _ => rfl
  | n + 1, k + 1, .tup xs, h => by
    show EV.tup (xs.map (fz S eh k)) = _
    congr 1
    exact (List.map_congr_left fun y hy => fz_okB (n := n) (List.all_eq_true.mp (show xs.all (okB n) = true from h) y hy)).trans (List.map_id _)
  | n + 1, k + 1, .lst xs, h => by
    show EV.lst (xs.map (fz S eh k)) = _
    congr 1
    exact (List.map_congr_left fun y hy => fz_okB (n := n) (List.all_eq_true.mp (show xs.all (okB n) = true from h) y hy)).trans (List.map_id _)
  | 0, _ + 1, .tup _, h => by cases h
  | 0, _ + 1, .lst _, h => by cases h
  | _, _ + 1, .non, _ => rfl
  | _, _ + 1, .bl _, _ => rfl
  | _, _ + 1, .int _, _ => rfl
  | _, _ + 1, .str _, _ => rfl
  | n, _ + 1, .ty _, h => by cases n <;> cases h
  | n, _ + 1, .ref _, h => by cases n <;> cases h
  | n, _ + 1, .glo _, h => by cases n <;> cases h
  | n, _ + 1, .scr _, h => by cases n <;> cases h
  | n, _ + 1, .dct _, h => by cases n <;> cases h
  | n, _ + 1, .obj _ _, h => by cases n <;> cases h
  | n, _ + 1, .exc _ _, h => by cases n <;> cases h
  | n, _ + 1, .exa _ _ _, h => by cases n <;> cases h
/-- what stood stands -/
def Kp (eh eh' : Eh) : Prop := ∀ c, eh c ≠ none → eh' c = eh c
theorem Kp.refl {eh : Eh} : Kp eh eh := fun _ _ => rfl
theorem Kp.trans {eh eh1 eh2 : Eh} (a : Kp eh eh1) (b : Kp eh1 eh2) : Kp eh eh2 := fun c h => (b c (by rw [a c h]; exact h)).trans (a c h)
theorem Kp.new {eh : Eh} {p : Addr} {o : Option EO} (h : eh p = none) : Kp eh (eupd eh p o) := fun c hc => eupd_ne fun z => hc (z ▸ h)
theorem Kp.set {eh eh1 : Eh} {p : Addr} {o : Option EO} (k : Kp eh eh1) (h : eh p = none) : Kp eh (eupd eh1 p o) := fun c hc => (eupd_ne fun z => hc (by rw [z]; exact h)).trans (k c hc)
theorem Kp.dr {eh eh1 : Eh} (k : Kp eh eh1) : drE (nw eh) eh1 = eh := by
  funext c
  unfold drE nw
  cases e : eh c with
  | none => simp
  | some o => simp [k c (by rw [e]; simp), e]
section
variable {xc : XC} {eh eh' : Eh} {q : KE} {x y : EV} {F : FN} {xs : List EV} {S : Addr → Bool} {n : Nat} {L us vs : List EV}
/-- a call that leaves the heap and gives data -/
theorem FZ_data (hS : S = nw eh) (h : F xc xs eh fun x eh1 => Kp eh eh1 ∧ okB n x = true ∧ q x eh) : (∀ {k : KE}, (∀ x eh1, Kp eh eh1 ∧ okB n x = true ∧ q x eh → k x eh1) → F xc xs eh k) → FZ S F xc xs eh q := by
  intro mono
  subst hS
  refine mono fun x eh1 ⟨a, b, c⟩ => ?_
  show q (fz _ _ _ x) _
  rw [fz_okB b, a.dr]; exact c
theorem fin_data {eh1 : Eh} (k : Kp eh eh1) (b : okB n x = true) (h : q x eh) : q (fz (nw eh) eh1 9 x) (drE (nw eh) eh1) := by rw [fz_okB b, k.dr]; exact h
/-- an explicit new list of data, handed out -/
theorem fin_list {eh1 : Eh} {p : Addr} (k : Kp eh eh1) (hp : eh p = none) (e : eh1 p = some (.lst L)) (b : okB n (.lst L) = true) (h : q (.lst L) eh) : q (fz (nw eh) eh1 9 (.ref p)) (drE (nw eh) eh1) := by
  have e1 : fz (nw eh) eh1 9 (.ref p) = .lst (L.map (fz (nw eh) eh1 8)) := by
    simp only [fz, nw, hp, e, Option.isNone_none, if_true]
  have e2 : L.map (fz (nw eh) eh1 8) = L := by
    cases n with
    | zero => cases b
    | succ n => exact (List.map_congr_left fun y hy => fz_okB (n := n) (List.all_eq_true.mp (show L.all (okB n) = true from b) y hy)).trans (List.map_id _)
  rw [e1, e2, k.dr]; exact h
theorem okB_map {α : Type} {c : α → EV} {l : List α} (h : ∀ a ∈ l, okB n (c a) = true) : okB (n + 1) (.lst (l.map c)) = true := List.all_eq_true.mpr fun y hy => by obtain ⟨a, ha, rfl⟩ := List.mem_map.mp hy; exact h a ha
theorem okD_map {α : Type} {c : α → EV} {l : List α} (h : ∀ a ∈ l, okD n (c a) = true) : okD (n + 1) (.lst (l.map c)) = true := List.all_eq_true.mpr fun y hy => by obtain ⟨a, ha, rfl⟩ := List.mem_map.mp hy; exact h a ha
theorem okD_tup {α : Type} {c : α → EV} {l : List α} (h : ∀ a ∈ l, okD n (c a) = true) : okD (n + 1) (.tup (l.map c)) = true := List.all_eq_true.mpr fun y hy => by obtain ⟨a, ha, rfl⟩ := List.mem_map.mp hy; exact h a ha
theorem okD_ints (l : List Int) : okD (n + 1) (.tup (l.map .int)) = true := okD_tup fun _ _ => by cases n <;> rfl
/-! ### sources -/
theorem fro_seq (h : froE eh x = .lst L) : seqE eh x = some L := by
  cases x with
  | lst => cases h; rfl
  | scr ns => cases h; rfl
  | ref a =>
    cases e : eh a with
    | none => simp [froE, e] at h
    | some o => cases o with
      | lst ys => simp [froE, e] at h; subst h; simp only [seqE, e]
      | dct _ => simp [froE, e] at h
      | ins _ _ => simp [froE, e] at h
  | _ => cases h
theorem fro_lst (h : froE eh x = .lst L) (hs : ∀ ns, x ≠ .scr ns) : lstE eh x = some L := by
  cases x with
  | lst => cases h; rfl
  | scr ns => exact absurd rfl (hs ns)
  | ref a => have := fro_seq h; unfold seqE at this; unfold lstE; exact this
  | _ => cases h
theorem fro_src (h : froE eh x = .lst L) : ∃ ok, srcL eh x = some (L, ok) ∧ ok eh ∧ ∀ eh', Kp eh eh' → ok eh' := by
  cases x with
  | lst => cases h; exact ⟨_, rfl, trivial, fun _ _ => trivial⟩
  | scr ns => cases h; exact ⟨_, rfl, trivial, fun _ _ => trivial⟩
  | ref a =>
    cases e : eh a with
    | none => simp [froE, e] at h
    | some o => cases o with
      | lst ys => simp [froE, e] at h; subst h; exact ⟨_, by simp only [srcL, e], e, fun eh' k => (k a (by rw [e]; simp)).trans e⟩
      | dct _ => simp [froE, e] at h
      | ins _ _ => simp [froE, e] at h
  | _ => cases h
theorem fro_walk (h : froE eh x = .lst L) : ∃ ok, walkE eh x = some (L, ok) ∧ ok eh ∧ ∀ eh', Kp eh eh' → ok eh' := by
  cases x with
  | lst => cases h; exact ⟨_, rfl, trivial, fun _ _ => trivial⟩
  | scr ns => cases h; exact ⟨_, rfl, trivial, fun _ _ => trivial⟩
  | ref a =>
    cases e : eh a with
    | none => simp [froE, e] at h
    | some o => cases o with
      | lst ys => simp [froE, e] at h; subst h; exact ⟨_, by simp only [walkE, e], e, fun eh' k => (k a (by rw [e]; simp)).trans e⟩
      | dct _ => simp [froE, e] at h
      | ins _ _ => simp [froE, e] at h
  | _ => cases h
theorem fro_ref {a : Addr} (h : eh a = some (.lst L)) : froE eh (.ref a) = .lst L := by simp [froE, h]
theorem walk_i {qi : List EV → (Eh → Prop) → Eh → Prop} (h : froE eh x = .lst L) (k : ∀ ok : Eh → Prop, ok eh → (∀ eh', Kp eh eh' → ok eh') → qi L ok eh) : ∃ xs ok, walkE eh x = some (xs, ok) ∧ qi xs ok eh := by
  obtain ⟨ok, e, o, ko⟩ := fro_walk h
  exact ⟨L, ok, e, k ok o ko⟩
theorem src_i {qi : List EV → (Eh → Prop) → Eh → Prop} {G : List EV → List EV} (h : froE eh y = .lst L) (k : ∀ ok : Eh → Prop, ok eh → (∀ eh', Kp eh eh' → ok eh') → qi (G L) ok eh) : ∃ x ys ok, [y] = [x] ∧ srcL eh x = some (ys, ok) ∧ qi (G ys) ok eh := by
  obtain ⟨ok, e, o, ko⟩ := fro_src h
  exact ⟨y, L, ok, rfl, e, k ok o ko⟩
theorem zipL_i {qi : List EV → (Eh → Prop) → Eh → Prop} (hx : froE eh x = .lst us) (hy : froE eh y = .lst vs) (k : ∀ ok : Eh → Prop, ok eh → (∀ eh', Kp eh eh' → ok eh') → qi ((us.zip vs).map fun p => .tup [p.1, p.2]) ok eh) : zipP qi [x, y] eh := by
  obtain ⟨ok, e, o, ko⟩ := fro_src hx
  obtain ⟨ok', e', o', ko'⟩ := fro_src hy
  exact .inr ⟨us, vs, ok, ok', e, e', k _ ⟨o, o'⟩ fun eh' h => ⟨ko _ h, ko' _ h⟩⟩
theorem walkT_i {qi : List EV → (Eh → Prop) → Eh → Prop} (k : qi L (fun _ => True) eh) : ∃ xs ok, walkE eh (.tup L) = some (xs, ok) ∧ qi xs ok eh := ⟨_, _, rfl, k⟩
theorem walkS_i {qi : List EV → (Eh → Prop) → Eh → Prop} (k : qi L (fun _ => True) eh) : ∃ xs ok, walkE eh (.lst L) = some (xs, ok) ∧ qi xs ok eh := ⟨_, _, rfl, k⟩
theorem intx_i {j : Int} {P : Int → Prop} (h : P j) : ∃ i, EV.int j = .int i ∧ P i := ⟨j, rfl, h⟩
theorem asgx_i {g : Tg} {es es' : Es} {P : Es → Prop} (e : asg g x es = some es') (h : P es') : ∃ es', asg g x es = some es' ∧ P es' := ⟨es', e, h⟩
theorem lenL_i (h : froE eh x = .lst L) (k : q (.int L.length) eh) : bLen [x] eh q := len_i (fro_seq h) k
theorem lenT_i (k : q (.int L.length) eh) : bLen [.tup L] eh q := len_i rfl k
theorem lenF_i (k : q (.int L.length) eh) : bLen [.lst L] eh q := len_i rfl k
theorem tru_bl {b : Bool} {P : Bool → Prop} (k : P b) : ∃ k', truE eh (.bl b) = some k' ∧ P k' := ⟨b, rfl, k⟩
theorem slL_i {lo hi : Option Int} (h : froE eh x = .lst L) (k : q (.lst (cutE L lo hi)) eh) : oSlice x lo hi eh q := by
  have e := fro_seq h
  cases x with
  | str _ => cases h
  | tup _ => cases h
  | _ => exact ⟨L, e, k⟩
theorem slT_i {lo hi : Option Int} (k : q (.tup (cutE L lo hi)) eh) : oSlice (.tup L) lo hi eh q := ⟨Classical.em _, k⟩
theorem listL_i (h : froE eh x = .lst L) (k : q (.lst L) eh) : bList [x] eh q := ⟨_, fro_seq h, k⟩
theorem tupleL_i (k : q (.tup L) eh) : bTuple [.lst L] eh q := tuple_i rfl k
theorem cut_from {k : Nat} : cutE L (some (k : Int)) none = L.drop k := by
  unfold cutE
  rw [HT.sIx_none, HT.sIx_nat]
  by_cases h : k ≤ L.length
  · rw [Nat.min_eq_left h, List.take_of_length_le (show (L.drop k).length ≤ L.length - k by rw [List.length_drop]; exact Nat.le_refl _)]
  · rw [Nat.min_eq_right (by omega), List.drop_of_length_le (Nat.le_refl _), List.drop_of_length_le (show L.length ≤ k by omega), List.take_nil]
theorem cut_to {k : Nat} : cutE L none (some (k : Int)) = L.take k := by
  unfold cutE
  rw [HT.sIx_none, HT.sIx_nat]
  simp only [List.drop_zero, Nat.sub_zero]
  by_cases h : k ≤ L.length
  · rw [Nat.min_eq_left h]
  · rw [Nat.min_eq_right (by omega), List.take_length, List.take_of_length_le (show L.length ≤ k by omega)]
theorem cut_from1 : cutE L (some 1) none = L.drop 1 := cut_from (k := 1)
theorem cut_last : cutE L none (some (-1)) = L.dropLast := by
  unfold cutE
  rw [HT.sIx_none]
  have : HT.sIx L.length L.length (some (-1)) = L.length - 1 := by
    show (if (-1 : Int) < 0 then ((-1 : Int) + (L.length : Int)).toNat else min (-1 : Int).toNat L.length) = _
    rw [if_pos (by decide)]; omega
  rw [this, List.drop_zero, Nat.sub_zero, List.dropLast_eq_take]
/-! ### membership -/
theorem any_eqv (hx : okD n x = true) : ∀ {L : List EV}, (∀ y ∈ L, okD n y = true) → ((DL L).any fun e => PyData.eqv e (D x)) = true → x ∈ L
  | [], _, h => by cases h
  | y :: L, ho, h => by
    simp only [DL, List.any_cons, Bool.or_eq_true] at h
    rcases h with h | h
    · exact List.mem_cons.mpr (.inl ((eqv_iff (ho y (by simp)) hx).mp h).symm)
    · exact List.mem_cons.mpr (.inr (any_eqv hx (fun z hz => ho z (by simp [hz])) h))
theorem eqv_any (hx : okD n x = true) : ∀ {L : List EV}, (∀ y ∈ L, okD n y = true) → x ∈ L → ((DL L).any fun e => PyData.eqv e (D x)) = true
  | y :: L, ho, h => by
    simp only [DL, List.any_cons, Bool.or_eq_true]
    rcases List.mem_cons.mp h with h | h
    · subst h; exact .inl ((eqv_iff hx hx).mpr rfl)
    · exact .inr (eqv_any hx (fun z hz => ho z (by simp [hz])) h)
/-- x in y, a list or a tuple of data -/
theorem in_i {neg : Bool} (b : Bool) (hs : seqE eh y = some L) (hx : okD n x = true) (hL : ∀ z ∈ L, okD n z = true) (hn : n ≤ 60) (hb : b = true ↔ x ∈ L) (k : q (.bl (neg ^^ b)) eh) : cIn neg x y eh q := by
  have main : (∃ ys ds d, seqE eh y = some ys ∧ ys.length = ds.length ∧ (∀ (i : Nat) z e, ys[i]? = some z → ds[i]? = some e → Dat eh z e) ∧ Dat eh x d ∧ PyData.plainAll ds = true ∧ d.plain = true ∧ d.depth ≤ 60 ∧
      q (.bl (neg ^^ ds.any fun e => PyData.eqv e d)) eh) := by
    have dx := DOk.of (okB_of hx)
    have dl := DOk.all fun z hz => DOk.of (okB_of (hL z hz))
    refine ⟨L, DL L, D x, hs, by rw [DL_map]; simp, Dat.ofL eh dl.1, Dat.of eh dx.d, dl.2.1, dx.p, Nat.le_trans dx.z hn, ?_⟩
    have : ((DL L).any fun e => PyData.eqv e (D x)) = b := by
      cases h : (DL L).any fun e => PyData.eqv e (D x) with
      | true => exact (hb.mpr (any_eqv hx hL h)).symm
      | false =>
        cases b with
        | false => rfl
        | true => rw [eqv_any hx hL (hb.mp rfl)] at h; cases h
    rw [this]; exact k
  unfold cIn
  cases y with
  | str _ => cases hs
  | _ => exact .inl main
/-- repr of data -/
theorem repr_i {d : PyData} (hr : isRf x = true) (hd : Dat eh x d) (hs : d.showable = true) (hn : d.hasDict = false) (hz : d.depth ≤ 60) (hl : d.shown.length ≤ sizeLine) (k : q (.str d.shown) eh) : bRepr [x] eh q := ⟨x, d, rfl, hr, hd, hs, hn, hz, hl, k⟩
theorem rev_i {es : Es} {a : ME} {xc : XC} (h : a xc es eh fun x eh1 => ∃ xs, lstE eh1 x = some xs ∧ q (.lst xs.reverse) eh1) : mRev a xc es eh q := h
theorem addT_i (ne : us ≠ []) (hz : us.length + vs.length ≤ sizeLine) (k : q (.tup (us ++ vs)) eh) : oAdd (.tup us) (.tup vs) eh q := ⟨ne, hz, k⟩
theorem addF_i (hz : us.length + vs.length ≤ sizeLine) (k : q (.lst (us ++ vs)) eh) : oAdd (.lst us) (.lst vs) eh q := ⟨us, vs, rfl, rfl, hz, k⟩
theorem addL_i (hx : lstE eh x = some us) (hy : lstE eh y = some vs) (hz : us.length + vs.length ≤ sizeLine) (k : q (.lst (us ++ vs)) eh) : oAdd x y eh q := by
  unfold oAdd
  cases x <;> cases y <;> first | exact ⟨us, vs, hx, hy, hz, k⟩ | (cases hx; done) | (cases hy; done)
end
/-! ### repr of data that is not too long -/
def chS (x : Str) : Bool := x.cps.toList.all fun c => decide (c < 16 ^ 8)
def okS : Nat → EV → Bool
  | _, .non => true
  | _, .bl _ => true
  | _, .int i => decide (i.natAbs < 10 ^ 99)
  | _, .str x => chS x
  | n + 1, .tup xs => xs.all (okS n)
  | n + 1, .lst xs => xs.all (okS n)
  | _, _ => false
structure Shw (n : Nat) (x : EV) : Prop where
  b : okB n x = true
  l : (D x).leavesShort 100 = true
  s : (D x).showable = true
  d : (D x).hasDict = false
theorem Shw.all {n : Nat} : ∀ {xs : List EV}, (∀ x ∈ xs, Shw n x) → xs.all (okB n) = true ∧ PyData.leavesShortAll 100 (DL xs) = true ∧ PyData.showableAll (DL xs) = true ∧ PyData.hasDictAll (DL xs) = false
  | [], _ => ⟨rfl, rfl, rfl, rfl⟩
  | x :: xs, h => by
    have a := h x (by simp)
    obtain ⟨b1, b2, b3, b4⟩ := Shw.all (xs := xs) fun y hy => h y (by simp [hy])
    exact ⟨by simp only [List.all_cons, a.b, b1, Bool.and_self], by simp only [DL, PyData.leavesShortAll, a.l, b2, Bool.and_self], by simp only [DL, PyData.showableAll, a.s, b3, Bool.and_self], by simp only [DL, PyData.hasDictAll, a.d, b4, Bool.or_self]⟩
theorem Shw.int {n : Nat} {i : Int} (h : i.natAbs < 10 ^ 99) : Shw n (.int i) := by
  refine ⟨by cases n <;> rfl, ?_, ?_, by simp only [D, PyData.hasDict]⟩
  · have e := int_text_length_le10 (k := 99) (by decide) h
    simp only [D, PyData.leavesShort, decide_eq_true_eq]
    show (Str.ofString (toString i)).length ≤ 100
    rw [PySem.ofString_length]; exact e
  · simp only [D, PyData.showable, decide_eq_true_eq]
    by_cases z : i.natAbs = 0
    · rw [z]; decide
    · refine (Nat.log2_lt z).mpr (Nat.lt_trans h (by decide +kernel))
theorem Shw.of : ∀ {n : Nat} {x : EV}, okS n x = true → Shw n x
  | n, .non, _ => ⟨by cases n <;> rfl, rfl, rfl, rfl⟩
  | n, .bl _, _ => ⟨by cases n <;> rfl, rfl, rfl, rfl⟩
  | n, .int i, h => .int (by cases n <;> simpa [okS] using h)
  | n, .str x, h => ⟨by cases n <;> rfl, by cases n <;> exact h, rfl, rfl⟩
  | n + 1, .tup xs, h => by
    obtain ⟨a, b, c, d⟩ := Shw.all (n := n) (xs := xs) fun y hy => Shw.of (List.all_eq_true.mp (show xs.all (okS n) = true from h) y hy)
    exact ⟨a, b, c, d⟩
  | n + 1, .lst xs, h => by
    obtain ⟨a, b, c, d⟩ := Shw.all (n := n) (xs := xs) fun y hy => Shw.of (List.all_eq_true.mp (show xs.all (okS n) = true from h) y hy)
    exact ⟨a, b, c, d⟩
  | 0, .tup _, h => by cases h
  | 0, .lst _, h => by cases h
  | n, .ty _, h => by cases n <;> cases h
  | n, .ref _, h => by cases n <;> cases h
  | n, .glo _, h => by cases n <;> cases h
  | n, .scr _, h => by cases n <;> cases h
  | n, .dct _, h => by cases n <;> cases h
  | n, .obj _ _, h => by cases n <;> cases h
  | n, .exc _ _, h => by cases n <;> cases h
  | n, .exa _ _ _, h => by cases n <;> cases h
theorem reprS_i {eh : Eh} {q : KE} {x x' : EV} {n : Nat} (hr : isRf x = true) (ex : froE eh x = x') (hx : okS n x' = true) (hn : n ≤ 60) (hb : (D x').bulk ≤ 100000) (k : q (.str (D x').shown) eh) : bRepr [x] eh q := by
  have w := Shw.of hx
  obtain ⟨d1, p1, z1⟩ := dat_fro (eh := eh) (x := x) (n := n) (by rw [ex]; exact w.b)
  rw [ex] at d1 z1
  refine repr_i hr d1 w.s w.d (by omega) ?_ k
  have := PyData.shown_le_bulk 100 (by decide) _ w.l
  have e : sizeLine = 16777216 := rfl
  rw [e]
  have : (100 + 2) * (D x').bulk ≤ 102 * 100000 := Nat.mul_le_mul (by decide) hb
  omega
theorem okS_map {α : Type} {n : Nat} {c : α → EV} {l : List α} (h : ∀ a ∈ l, okS n (c a) = true) : okS (n + 1) (.lst (l.map c)) = true := List.all_eq_true.mpr fun y hy => by obtain ⟨a, ha, rfl⟩ := List.mem_map.mp hy; exact h a ha
theorem okS_tup {α : Type} {n : Nat} {c : α → EV} {l : List α} (h : ∀ a ∈ l, okS n (c a) = true) : okS (n + 1) (.tup (l.map c)) = true := List.all_eq_true.mpr fun y hy => by obtain ⟨a, ha, rfl⟩ := List.mem_map.mp hy; exact h a ha
theorem bulk_map {α : Type} {c : α → EV} {m : Nat} : ∀ {l : List α}, (∀ a ∈ l, (D (c a)).bulk ≤ m) → PyData.bulkAll (DL (l.map c)) ≤ l.length * (m + 1)
  | [], _ => Nat.zero_le _
  | a :: l, h => by
    have h1 := h a (by simp)
    have h2 := bulk_map (l := l) fun x hx => h x (by simp [hx])
    simp only [List.map_cons, DL, PyData.bulkAll, List.length_cons, Nat.add_mul]
    omega
/-! ### places, draws -/
theorem fro_same {eh : Eh} {L : List EV} : froE eh (.lst L) = .lst L := rfl
theorem fin_rg {eh : Eh} {a : Addr} {o : EO} {x : EV} {n : Nat} {q : KE} (h : eh a ≠ none) (b : okB n x = true) (k : q x (eupd eh a (some o))) : q (fz (nw eh) (eupd eh a (some o)) 9 x) (drE (nw eh) (eupd eh a (some o))) := by
  rw [fz_okB b, drE_same h]; exact k
theorem at_cells {α : Type} {f : α → EV} {cs : List α} {j : Nat} {c : α} (h : cs[j]? = some c) : atI (cs.map f) (j : Int) = some (f c) := by
  unfold atI ixN
  have hl : j < (cs.map f).length := by rw [List.length_map]; exact (List.getElem?_eq_some_iff.mp h).1
  rw [if_pos (Int.natCast_nonneg j), Int.toNat_natCast, if_pos (Int.ofNat_lt.mpr hl)]
  simp [h]
theorem at_last {xs : List EV} {x : EV} : atI (xs ++ [x]) (-1) = some x := by
  unfold atI ixN
  rw [if_neg (by decide)]
  simp only [List.length_append, List.length_cons, List.length_nil]
  rw [if_pos (by omega)]
  simp
  have : ((-1 : Int) + ((xs.length : Int) + 1)).toNat = xs.length := by omega
  simp [this]
theorem fro_ne {eh : Eh} {a p : Addr} {o : Option EO} {L : List EV} (h : eh p = some (.lst L)) (n : p ≠ a) : froE (eupd eh a o) (.ref p) = .lst L := fro_ref (by rw [eupd_ne n]; exact h)
theorem most_of {l : List EV} {m1 m2 m3 : Int} {v : Int} (hl : l = [.int m1, .int m2, .int m3]) (h : 0 ≤ v ∧ v < 3) (p : Int → Prop) (h1 : p m1) (h2 : p m2) (h3 : p m3) : ∃ n, atI l v = some (.int n) ∧ p n := by
  subst hl
  have : v = 0 ∨ v = 1 ∨ v = 2 := by omega
  rcases this with rfl | rfl | rfl
  · exact ⟨m1, rfl, h1⟩
  · exact ⟨m2, rfl, h2⟩
  · exact ⟨m3, rfl, h3⟩
theorem at_zero {α : Type} {f : α → EV} {x : α} {l : List α} : atI ((x :: l).map f) 0 = some (f x) := at_cells (cs := x :: l) (j := 0) rfl
theorem fz_lst {S : Addr → Bool} {eh : Eh} {k : Nat} {a : Addr} {xs : List EV} (h : S a = true) (e : eh a = some (.lst xs)) : fz S eh (k + 1) (.ref a) = .lst (xs.map (fz S eh k)) := by simp only [fz, h, e, if_true]
theorem drE_new {eh : Eh} {p : Addr} {o : Option EO} (h : eh p = none) : drE (nw eh) (eupd eh p o) = eh := by
  funext c
  unfold drE nw eupd
  by_cases hc : c = p
  · subst hc; simp [h]
  · cases e : eh c <;> simp [hc]
theorem okD_str {n : Nat} {w : Str} : okD n (.str w) = true := by cases n <;> rfl
theorem ints_inj : ∀ {a b : List Int}, a.map EV.int = b.map EV.int → a = b
  | [], [], _ => rfl
  | [], _ :: _, e => by cases e
  | _ :: _, [], e => by cases e
  | x :: a, y :: b, e => by
    rw [List.map_cons, List.map_cons, List.cons.injEq, EV.int.injEq] at e
    rw [e.1, ints_inj e.2]
theorem walkD_i {eh : Eh} {kvs : List (Key × EV)} {qi : List EV → (Eh → Prop) → Eh → Prop} (k : qi (kvs.map fun p => keyV p.1) (fun _ => True) eh) : ∃ xs ok, walkE eh (.dct kvs) = some (xs, ok) ∧ qi xs ok eh := by
  refine ⟨_, _, ?_, k⟩
  show some (_, _) = _
  congr 2
end VM

namespace LW
open PySem PySem.Spec PyProof.Rows L2 VM
def top (i : Nat) : Stmt := PySem.Challenge.pw_farreads_k05_errors_of_systems.main.body.getD i (.Pass ⟨0, 0, 0, 0⟩)
abbrev prg : PySem.Program := PySem.W.OpenLaw.prog PySem.Challenge.rw_farreads_k05_errors_of_systems
def st_ReadError_init : Stmt := (clB (top 1)).getD 0 (.Pass ⟨0, 0, 0, 0⟩)
def er : ErrD := ⟨"ReadError", ["ReadError", "InvalidSystem", "InvalidName", "InvalidAxes", "UnknownTable", "InvalidCell", "InvalidRead", "InvalidShifts", "InvalidNumber", "NotReady", "NoFar", "NothingToUndo", "Unreadable"], "ReadError.__init__", defArgs st_ReadError_init, defBody st_ReadError_init, defScope st_ReadError_init, prg.main.file⟩
def errs : List ErrD := [er]
theorem erS : ErrS er prg := ⟨rfl, by decide +kernel, ⟨_, rfl, rfl⟩, by decide +kernel, by decide +kernel, by decide +kernel, by decide +kernel, by decide +kernel, by decide +kernel, by decide +kernel, by decide +kernel,
  ⟨_, _, _, _, _, _, _, _, _, _, rfl, fun _ _ _ _ => ⟨⟨_, rfl⟩, rfl, rfl, rfl⟩⟩, fun _ _ _ _ _ _ _ => ⟨fun _ _ _ => BindsTo.of_eq rfl, fun _ _ _ => BindsTo.of_eq rfl⟩⟩
/-! ### _law_rng -/
def st__law_rng : Stmt := top 28
def d__law_rng : He.DefD := ⟨("_law_rng", none), "_law_rng", "_law_rng", defArgs st__law_rng, defBody st__law_rng, defScope st__law_rng, [], []⟩
def N__law_rng : List Str := ["_law_script", "_law_digits", "_law_seed", "_law_number", "_law_far"]
def bd__law_rng_1 : MS := (sSeq (sSet 4 (mCB bAbs (aCons (mVar 3) aNil)))
    (sSeq (sIf (tVal (mOp oGe (mVar 4) (mOp oPow (mC (.int 10)) (mC (.int 18))))) (sSet 1 (mOp oAdd (mOp oMul (mVar 1) (mOp oPow (mC (.int 10)) (mC (.int 60)))) (mOp oMod (mCB bInt (aCons (mVar 4) aNil)) (mOp oPow (mC (.int 10)) (mC (.int 60)))))) sNext)
    (sSet 2 (mOp oMod (mCB bInt (aCons (mOp oAdd (mOp oAdd (mOp oMul (mVar 2) (mC (.int 1000003))) (mOp oMod (mCB bInt (aCons (mVar 3) aNil)) (mC (.int 2305843009213693921)))) (mC (.int 7))) aNil)) (mC (.int 2305843009213693951))))))
def ms__law_rng : MS := (sSeq (sAsg (.tp [(.nm 1), (.nm 2)]) (mTup (aCons (mC (.int 0)) (aCons (mC (.int 88675123)) aNil))))
    (sSeq (sFor (iAny (mSl oSlice (mVar 0) mNo (mPt (mC (.int 63))))) (.nm 3) bd__law_rng_1)
    (sRet (mLstR (aCons (mVar 1) (aCons (mVar 2) (aCons (mC (.int 0)) aNil)))))))
def fn__law_rng : FN := fnOf 5 ms__law_rng
/-! ### _law_draw -/
def st__law_draw : Stmt := top 29
def d__law_draw : He.DefD := ⟨("_law_draw", none), "_law_draw", "_law_draw", defArgs st__law_draw, defBody st__law_draw, defScope st__law_draw, [], []⟩
def N__law_draw : List Str := ["_law_rng_here", "_law_limit", "_law_blend", "_law_digit"]
def ms__law_draw : MS := (sSeq (sIf (tVal (mOp oGt (mOp oIx (mVar 0) (mC (.int 0))) (mC (.int 0)))) (sSeq (sSet 3 (mOp oMod (mCB bInt (aCons (mOp oIx (mVar 0) (mC (.int 0))) aNil)) (mVar 1)))
    (sSeq (sLPutN (mVar 0) (mC (.int 0)) (mOp oDiv (mOp oIx (mVar 0) (mC (.int 0))) (mVar 1)))
    (sRet (mVar 3)))) sNext)
    (sSeq (sLPutN (mVar 0) (mC (.int 2)) (mOp oAdd (mOp oIx (mVar 0) (mC (.int 2))) (mC (.int 1))))
    (sSeq (sSet 2 (mOp oMod (mCB bInt (aCons (mOp oPow (mOp oAdd (mOp oIx (mVar 0) (mC (.int 1))) (mOp oMul (mC (.int 998244353)) (mOp oIx (mVar 0) (mC (.int 2))))) (mC (.int 3))) aNil)) (mC (.int 162259276829213363391578010288127))))
    (sSeq (sSet 2 (mOp oMod (mCB bInt (aCons (mOp oPow (mOp oAdd (mVar 2) (mOp oMul (mC (.int 32452843)) (mOp oIx (mVar 0) (mC (.int 2))))) (mC (.int 3))) aNil)) (mC (.int 170141183460469231731687303715884105727))))
    (sRet (mOp oMod (mCB bInt (aCons (mOp oDiv (mVar 2) (mC (.int 1048576))) aNil)) (mVar 1)))))))
def fn__law_draw : FN := fnOf 4 ms__law_draw
/-! ### is_name -/
def st_is_name : Stmt := top 20
def d_is_name : He.DefD := ⟨("is_name", none), "is_name", "is_name", defArgs st_is_name, defBody st_is_name, defScope st_is_name, [], []⟩
def N_is_name : List Str := ["word", "sign"]
def ce_is_name_1 : ME := (mOp (cIn false) (mVar 1) (mC (.str "abcdefghijklmnopqrstuvwxyz")))
def ms_is_name : MS := (sRet (mAnd (mChain oLe oLe (mC (.int 1)) (mCB bLen (aCons (mVar 0) aNil)) (mC (.int 8))) (mCB bAll (aCons (mComp (iAny (mVar 0)) (.nm 1) tYesE ce_is_name_1 [1]) aNil))))
def fn_is_name : FN := fnOf 2 ms_is_name
/-! ### is_read -/
def st_is_read : Stmt := top 21
def d_is_read : He.DefD := ⟨("is_read", none), "is_read", "is_read", defArgs st_is_read, defBody st_is_read, defScope st_is_read, [], []⟩
def N_is_read : List Str := ["read", "dimensions", "table", "vector", "factor"]
def ms_is_read : MS := (sSeq (sAsg (.tp [(.nm 2), (.nm 3), (.nm 4)]) (mVar 0))
    (sRet (mAnd (mFz 9 (mCall fn_is_name 1 [] (aCons (mVar 2) aNil))) (mAnd (mOp (cEq false) (mCB bLen (aCons (mVar 3) aNil)) (mVar 1)) (mOp (cEq true) (mVar 4) (mC (.int 0)))))))
def fn_is_read : FN := fnOf 5 ms_is_read
/-! ### check_system -/
def st_check_system : Stmt := top 22
def d_check_system : He.DefD := ⟨("check_system", none), "check_system", "check_system", defArgs st_check_system, defBody st_check_system, defScope st_check_system, [], []⟩
def N_check_system : List Str := ["dimensions", "tables", "modulus", "found", "many", "row", "name", "constant", "reads", "is_odd", "table", "vector", "factor", "read"]
def ce_check_system_1 : ME := (mFz 9 (mCall fn_is_read 2 [] (aCons (mVar 13) (aCons (mVar 0) aNil))))
def bd_check_system_2 : MS := (sSeq (sSet 4 (mOp oAdd (mVar 4) (mCB bLen (aCons (mVar 8) aNil))))
    (sSeq (sSet 9 (mOr (mNot (mFz 9 (mCall fn_is_name 1 [] (aCons (mVar 6) aNil)))) (mOr (mOp (cIn false) (mVar 6) (mVar 3)) (mOp oGt (mVar 4) (mC (.int 12))))))
    (sSeq (sIf (tOr (tTru (mVar 9)) (tNot (tTru (mCB bAll (aCons (mComp (iAny (mVar 8)) (.nm 13) tYesE ce_check_system_1 [13]) aNil))))) sNever sNext)
    (sDPutE (mVar 3) (mVar 6) (mC (.bl true))))))
def ce_check_system_3 : ME := (mOp (cIn false) (mVar 10) (mVar 3))
def bd_check_system_4 : MS := (sIf (tNot (tTru (mCB bAll (aCons (mComp (iAny (mVar 8)) (.tp [(.nm 10), (.nm 11), (.nm 12)]) tYesE ce_check_system_3 [10, 11, 12]) aNil)))) sNever sNext)
def ms_check_system : MS := (sSeq (sIf (tNot (tVal (mChain oLe oLe (mC (.int 1)) (mVar 0) (mC (.int 3))))) sNever sNext)
    (sSeq (sIf (tNot (tVal (mChain oLe oLe (mC (.int 1)) (mCB bLen (aCons (mVar 1) aNil)) (mC (.int 6))))) sNever sNext)
    (sSeq (sAsg (.tp [(.nm 3), (.nm 4)]) (mTup (aCons mDNew (aCons (mC (.int 0)) aNil))))
    (sSeq (sFor (iEnumM (aCons (mVar 1) aNil)) (.tp [(.nm 5), (.tp [(.nm 6), (.nm 7), (.nm 8)])]) bd_check_system_2)
    (sSeq (sFor (iEnumM (aCons (mVar 1) aNil)) (.tp [(.nm 5), (.tp [(.nm 6), (.nm 7), (.nm 8)])]) bd_check_system_4)
    (sIf (tVal (mOp oLt (mVar 2) (mC (.int 2)))) sNever sNext))))))
def fn_check_system : FN := fnOf 14 ms_check_system
/-! ### System.__init__ -/
def st_System_init : Stmt := (clB (top 26)).getD 0 (.Pass ⟨0, 0, 0, 0⟩)
def d_System_init : He.DefD := ⟨("System", some "__init__"), "__init__", "System.__init__", defArgs st_System_init, defBody st_System_init, defScope st_System_init, [(.int 1000003)], []⟩
def N_System_init : List Str := ["self", "dimensions", "tables", "modulus", "name", "constant", "reads", "number"]
def bd_System_init_1 : MS := (sDPutE (mFld "System" "kept_tables" (mVar 0)) (mVar 4) (mTup (aCons (mVar 5) (aCons (mCB bTuple (aCons (mVar 6) aNil)) aNil))))
def ce_System_init_2 : ME := (mTup (aCons (mVar 4) (aCons (mVar 7) aNil)))
def ms_System_init : MS := (sSeq (sExpr (mFz 9 (mCall fn_check_system 3 [] (aCons (mVar 1) (aCons (mVar 2) (aCons (mVar 3) aNil))))))
    (sSeq (sFldE "System" "dimension_count" (mVar 0) (mVar 1))
    (sSeq (sFldE "System" "kept_modulus" (mVar 0) (mVar 3))
    (sSeq (sFldE "System" "kept_tables" (mVar 0) mDNew)
    (sSeq (sFor (iAny (mSortK0 (mVar 2))) (.tp [(.nm 4), (.nm 5), (.nm 6)]) bd_System_init_1)
    (sFzF 0 "System" "kept_tables" 9 (sFldE "System" "named_reads" (mVar 0) (mCB bTuple (aCons (mComp2 (iItemsM (mFld "System" "kept_tables" (mVar 0))) (.tp [(.nm 4), (.tp [(.nm 5), (.nm 6)])]) tYesE (iRange1 (aCons (mCB bLen (aCons (mVar 6) aNil)) aNil)) (.nm 7) tYesE ce_System_init_2 [4, 5, 6, 7] [7]) aNil)))))))))
def fn_System_init : FN := fnOf 8 ms_System_init
/-! ### _law_mixed -/
def st__law_mixed : Stmt := top 30
def d__law_mixed : He.DefD := ⟨("_law_mixed", none), "_law_mixed", "_law_mixed", defArgs st__law_mixed, defBody st__law_mixed, defScope st__law_mixed, [], []⟩
def N__law_mixed : List Str := ["_law_rng_here", "_law_some", "_law_left", "_law_turned"]
def bd__law_mixed_1 : MS := (sExpr (mBM isLst oAppend (mVar 3) (aCons (mBM isLst oPop (mVar 2) (aCons (mFz 9 (mCall fn__law_draw 2 [] (aCons (mVar 0) (aCons (mCB bLen (aCons (mVar 2) aNil)) aNil)))) aNil)) aNil)))
def ms__law_mixed : MS := (sSeq (sPar 2 3 (aCons (mCB bListR (aCons (mVar 1) aNil)) (aCons (mLstR aNil) aNil)))
    (sSeq (sWhile (tVal (mOp (cEq true) (mVar 2) (mLst aNil))) bd__law_mixed_1)
    (sRet (mVar 3))))
def fn__law_mixed : FN := fnOf 4 ms__law_mixed
/-! ### _law_vector -/
def st__law_vector : Stmt := top 31
def d__law_vector : He.DefD := ⟨("_law_vector", none), "_law_vector", "_law_vector", defArgs st__law_vector, defBody st__law_vector, defScope st__law_vector, [], []⟩
def N__law_vector : List Str := ["_law_rng_here", "_law_dims", "_law_wide", "_law_some", "_law_axis"]
def bd__law_vector_1 : MS := (sExpr (mBM isLst oAppend (mVar 3) (aCons (mOp oIx (mLst (aCons (mC (.int 0)) (aCons (mC (.int 1)) (aCons (mFz 9 (mCall fn__law_draw 2 [] (aCons (mVar 0) (aCons (mOp oAdd (mVar 2) (mC (.int 1))) aNil)))) (aCons (mOp oSub (mC (.int 0)) (mFz 9 (mCall fn__law_draw 2 [] (aCons (mVar 0) (aCons (mOp oAdd (mVar 2) (mC (.int 1))) aNil))))) aNil))))) (mFz 9 (mCall fn__law_draw 2 [] (aCons (mVar 0) (aCons (mC (.int 4)) aNil))))) aNil)))
def ms__law_vector : MS := (sSeq (sSet 3 (mLstR aNil))
    (sSeq (sFor (iRange1 (aCons (mVar 1) aNil)) (.nm 4) bd__law_vector_1)
    (sRet (mCB bTuple (aCons (mVar 3) aNil)))))
def fn__law_vector : FN := fnOf 5 ms__law_vector
/-! ### _law_made_rows -/
def st__law_made_rows : Stmt := top 32
def d__law_made_rows : He.DefD := ⟨("_law_made_rows", none), "_law_made_rows", "_law_made_rows", defArgs st__law_made_rows, defBody st__law_made_rows, defScope st__law_made_rows, [], []⟩
def N__law_made_rows : List Str := ["_law_rng_here", "_law_dims", "_law_many", "_law_most", "_law_wide", "_law_words", "_law_rows", "_law_turn", "_law_word", "_law_number", "_law_some", "_law_factor"]
def ce__law_made_rows_1 : ME := (mOp oAdd (mC (.str "row")) (mSl oSlice (mVar 8) mNo (mPt (mC (.int 5)))))
def ce__law_made_rows_2 : ME := (mTup (aCons (mVar 8) (aCons (mOp oSub (mFz 9 (mCall fn__law_draw 2 [] (aCons (mVar 0) (aCons (mC (.int 199)) aNil)))) (mC (.int 99))) (aCons (mLstR aNil) aNil))))
def bd__law_made_rows_3 : MS := (sSeq (sAsg (.tp [(.nm 8), (.nm 9), (.nm 10)]) (mOp oIx (mVar 6) (mFz 9 (mCall fn__law_draw 2 [] (aCons (mVar 0) (aCons (mVar 2) aNil))))))
    (sSeq (sSet 11 (mOp oIx (mLst (aCons (mC (.int 1)) (aCons (mUn oNeg (mC (.int 1))) (aCons (mOp oAdd (mC (.int 1)) (mFz 9 (mCall fn__law_draw 2 [] (aCons (mVar 0) (aCons (mC (.int 9)) aNil))))) (aCons (mOp oSub (mOp oSub (mC (.int 0)) (mC (.int 1))) (mFz 9 (mCall fn__law_draw 2 [] (aCons (mVar 0) (aCons (mC (.int 9)) aNil))))) aNil))))) (mFz 9 (mCall fn__law_draw 2 [] (aCons (mVar 0) (aCons (mC (.int 4)) aNil))))))
    (sExpr (mBM isLst oAppend (mVar 10) (aCons (mTup (aCons (mOp oIx (mVar 5) (mFz 9 (mCall fn__law_draw 2 [] (aCons (mVar 0) (aCons (mVar 2) aNil))))) (aCons (mFz 9 (mCall fn__law_vector 3 [] (aCons (mVar 0) (aCons (mVar 1) (aCons (mVar 4) aNil))))) (aCons (mVar 11) aNil)))) aNil)))))
def ms__law_made_rows : MS := (sSeq (sSet 5 (mSl oSlice (mFz 9 (mCall fn__law_mixed 2 [] (aCons (mVar 0) (aCons (mLst (aCons (mC (.str "a")) (aCons (mC (.str "b")) (aCons (mC (.str "c")) (aCons (mC (.str "ab")) (aCons (mC (.str "zz")) (aCons (mC (.str "readhere")) aNil))))))) aNil)))) mNo (mPt (mVar 2))))
    (sSeq (sIf (tVal (mOp (cEq false) (mFz 9 (mCall fn__law_draw 2 [] (aCons (mVar 0) (aCons (mC (.int 3)) aNil)))) (mC (.int 0)))) (sSet 5 (mComp (iAny (mVar 5)) (.nm 8) tYesE ce__law_made_rows_1 [8])) sNext)
    (sSeq (sSet 6 (mComp (iAny (mVar 5)) (.nm 8) tYesE ce__law_made_rows_2 [8]))
    (sSeq (sFor (iRange1 (aCons (mFz 9 (mCall fn__law_draw 2 [] (aCons (mVar 0) (aCons (mOp oAdd (mVar 3) (mC (.int 1))) aNil)))) aNil)) (.nm 7) bd__law_made_rows_3)
    (sRet (mVar 6))))))
def fn__law_made_rows : FN := fnOf 12 ms__law_made_rows
/-! ### System.names -/
def st_System_names : Stmt := (clB (top 26)).getD 3 (.Pass ⟨0, 0, 0, 0⟩)
def p_System_names : GetD := ⟨"System", "names", "System.names", defArgs st_System_names, defBody st_System_names, defScope st_System_names⟩
def N_System_names : List Str := ["self"]
def ms_System_names : MS := (sRet (mCB bListD (aCons (mFld "System" "kept_tables" (mVar 0)) aNil)))
def fn_System_names : FN := fnOf 1 ms_System_names
/-! ### check_table -/
def st_check_table : Stmt := top 23
def d_check_table : He.DefD := ⟨("check_table", none), "check_table", "check_table", defArgs st_check_table, defBody st_check_table, defScope st_check_table, [], []⟩
def N_check_table : List Str := ["system", "name"]
def ms_check_table : MS := (sIf (tVal (mOp (cIn true) (mVar 1) (mFld "System" "kept_tables" (mVar 0)))) (sRaise "UnknownTable" (mVar 1)) sNext)
def fn_check_table : FN := fnOf 2 ms_check_table
/-! ### System.reads -/
def st_System_reads : Stmt := (clB (top 26)).getD 7 (.Pass ⟨0, 0, 0, 0⟩)
def d_System_reads : He.DefD := ⟨("System", some "reads"), "reads", "System.reads", defArgs st_System_reads, defBody st_System_reads, defScope st_System_reads, [], []⟩
def N_System_reads : List Str := ["self", "name"]
def ms_System_reads : MS := (sSeq (sExpr (mFz 9 (mCall fn_check_table 2 [] (aCons (mVar 0) (aCons (mVar 1) aNil)))))
    (sRet (mCB bList (aCons (mOp oIx (mOp oIx (mFld "System" "kept_tables" (mVar 0)) (mVar 1)) (mC (.int 1))) aNil))))
def fn_System_reads : FN := fnOf 2 ms_System_reads
/-! ### System.constant -/
def st_System_constant : Stmt := (clB (top 26)).getD 6 (.Pass ⟨0, 0, 0, 0⟩)
def d_System_constant : He.DefD := ⟨("System", some "constant"), "constant", "System.constant", defArgs st_System_constant, defBody st_System_constant, defScope st_System_constant, [], []⟩
def N_System_constant : List Str := ["self", "name"]
def ms_System_constant : MS := (sSeq (sExpr (mFz 9 (mCall fn_check_table 2 [] (aCons (mVar 0) (aCons (mVar 1) aNil)))))
    (sRet (mOp oIx (mOp oIx (mFld "System" "kept_tables" (mVar 0)) (mVar 1)) (mC (.int 0)))))
def fn_System_constant : FN := fnOf 2 ms_System_constant
/-! ### System.__len__ -/
def st_System_dlen : Stmt := (clB (top 26)).getD 4 (.Pass ⟨0, 0, 0, 0⟩)
def d_System_dlen : He.DefD := ⟨("System", some "__len__"), "__len__", "System.__len__", defArgs st_System_dlen, defBody st_System_dlen, defScope st_System_dlen, [], []⟩
def N_System_dlen : List Str := ["self"]
def ms_System_dlen : MS := (sRet (mCB bLen (aCons (mFld "System" "kept_tables" (mVar 0)) aNil)))
def fn_System_dlen : FN := fnOf 1 ms_System_dlen
/-! ### System.all_reads -/
def st_System_all_reads : Stmt := (clB (top 26)).getD 8 (.Pass ⟨0, 0, 0, 0⟩)
def d_System_all_reads : He.DefD := ⟨("System", some "all_reads"), "all_reads", "System.all_reads", defArgs st_System_all_reads, defBody st_System_all_reads, defScope st_System_all_reads, [], []⟩
def N_System_all_reads : List Str := ["self"]
def ms_System_all_reads : MS := (sRet (mCB bList (aCons (mFld "System" "named_reads" (mVar 0)) aNil)))
def fn_System_all_reads : FN := fnOf 1 ms_System_all_reads
/-! ### System.modulus -/
def st_System_modulus : Stmt := (clB (top 26)).getD 2 (.Pass ⟨0, 0, 0, 0⟩)
def p_System_modulus : GetD := ⟨"System", "modulus", "System.modulus", defArgs st_System_modulus, defBody st_System_modulus, defScope st_System_modulus⟩
def N_System_modulus : List Str := ["self"]
def ms_System_modulus : MS := (sRet (mFld "System" "kept_modulus" (mVar 0)))
def fn_System_modulus : FN := fnOf 1 ms_System_modulus
/-! ### System.dimensions -/
def st_System_dimensions : Stmt := (clB (top 26)).getD 1 (.Pass ⟨0, 0, 0, 0⟩)
def p_System_dimensions : GetD := ⟨"System", "dimensions", "System.dimensions", defArgs st_System_dimensions, defBody st_System_dimensions, defScope st_System_dimensions⟩
def N_System_dimensions : List Str := ["self"]
def ms_System_dimensions : MS := (sRet (mFld "System" "dimension_count" (mVar 0)))
def fn_System_dimensions : FN := fnOf 1 ms_System_dimensions
/-! ### _law_shown -/
def st__law_shown : Stmt := top 34
def d__law_shown : He.DefD := ⟨("_law_shown", none), "_law_shown", "_law_shown", defArgs st__law_shown, defBody st__law_shown, defScope st__law_shown, [], []⟩
def N__law_shown : List Str := ["_law_made", "_law_rows", "_law_word"]
def ce__law_shown_1 : ME := (mTup (aCons (mVar 2) (aCons (mNox (mFz 9 (mMeth "System" "constant" fn_System_constant 2 [] (mVar 0) (aCons (mVar 2) aNil)))) (aCons (mNox (mFz 9 (mMeth "System" "reads" fn_System_reads 2 [] (mVar 0) (aCons (mVar 2) aNil)))) aNil))))
def ms__law_shown : MS := (sSeq (sSet 1 (mComp (iAny (mFz 9 (mProp "System" fn_System_names 1 [] (mVar 0)))) (.nm 2) tYesE ce__law_shown_1 [2]))
    (sRet (mCB bRepr (aCons (mLst (aCons (mFz 9 (mProp "System" fn_System_dimensions 1 [] (mVar 0))) (aCons (mFz 9 (mProp "System" fn_System_modulus 1 [] (mVar 0))) (aCons (mVar 1) (aCons (mFz 9 (mMeth "System" "all_reads" fn_System_all_reads 1 [] (mVar 0) aNil)) (aCons (mCB (bLenO "System" fn_System_dlen) (aCons (mVar 0) aNil)) aNil)))))) aNil))))
def fn__law_shown : FN := fnOf 3 ms__law_shown
/-! ### check_read -/
def st_check_read : Stmt := top 24
def d_check_read : He.DefD := ⟨("check_read", none), "check_read", "check_read", defArgs st_check_read, defBody st_check_read, defScope st_check_read, [], []⟩
def N_check_read : List Str := ["system", "read"]
def ms_check_read : MS := (sIf (tVal (mOp (cIn true) (mVar 1) (mFld "System" "named_reads" (mVar 0)))) (sRaise "InvalidRead" (mVar 1)) sNext)
def fn_check_read : FN := fnOf 2 ms_check_read
/-! ### table_list -/
def st_table_list : Stmt := top 25
def d_table_list : He.DefD := ⟨("table_list", none), "table_list", "table_list", defArgs st_table_list, defBody st_table_list, defScope st_table_list, [], []⟩
def N_table_list : List Str := ["system", "name", "constant", "reads"]
def ce_table_list_1 : ME := (mTup (aCons (mVar 1) (aCons (mVar 2) (aCons (mCB bList (aCons (mVar 3) aNil)) aNil))))
def ms_table_list : MS := (sRet (mComp (iItemsM (mFld "System" "kept_tables" (mVar 0))) (.tp [(.nm 1), (.tp [(.nm 2), (.nm 3)])]) tYesE ce_table_list_1 [1, 2, 3]))
def fn_table_list : FN := fnOf 4 ms_table_list
/-! ### System.without -/
def st_System_without : Stmt := (clB (top 26)).getD 9 (.Pass ⟨0, 0, 0, 0⟩)
def d_System_without : He.DefD := ⟨("System", some "without"), "without", "System.without", defArgs st_System_without, defBody st_System_without, defScope st_System_without, [], []⟩
def N_System_without : List Str := ["self", "reads", "read", "tables", "name", "constant", "rest", "left", "number"]
def bd_System_without_1 : MS := (sExpr (mFz 9 (mCall fn_check_read 2 [] (aCons (mVar 0) (aCons (mVar 2) aNil)))))
def bd_System_without_3 : MS := (sSeq (sSet 7 (mComp (iEnumM (aCons (mVar 6) aNil)) (.tp [(.nm 8), (.nm 2)]) (tVal (mOp (cIn true) (mTup (aCons (mVar 4) (aCons (mVar 8) aNil))) (mVar 1))) (mVar 2) [8, 2]))
    (sExpr (mBM isLst oAppend (mVar 3) (aCons (mTup (aCons (mVar 4) (aCons (mVar 5) (aCons (mVar 7) aNil)))) aNil))))
def ms_System_without : MS := (sSeq (sFor (iAny (mVar 1)) (.nm 2) bd_System_without_1)
    (sSeq (sSet 3 (mLstR aNil))
    (sSeq (sFor (iAny (mFz 9 (mCall fn_table_list 1 [] (aCons (mVar 0) aNil)))) (.tp [(.nm 4), (.nm 5), (.nm 6)]) bd_System_without_3)
    (sFzV 3 (sRet (mFz 9 (mMake "System" fn_System_init 4 [] (aCons (mFld "System" "dimension_count" (mVar 0)) (aCons (mVar 3) (aCons (mFld "System" "kept_modulus" (mVar 0)) aNil))))))))))
def fn_System_without : FN := fnOf 9 ms_System_without
/-! ### System.beside -/
def st_System_beside : Stmt := (clB (top 26)).getD 10 (.Pass ⟨0, 0, 0, 0⟩)
def d_System_beside : He.DefD := ⟨("System", some "beside"), "beside", "System.beside", defArgs st_System_beside, defBody st_System_beside, defScope st_System_beside, [], []⟩
def N_System_beside : List Str := ["self", "other", "name"]
def bd_System_beside_1 : MS := (sIf (tVal (mOp (cIn false) (mVar 2) (mFld "System" "kept_tables" (mVar 1)))) (sRaise "InvalidName" (mVar 2)) sNext)
def ms_System_beside : MS := (sSeq (sFor (iAny (mFld "System" "kept_tables" (mVar 0))) (.nm 2) bd_System_beside_1)
    (sRet (mFz 9 (mMake "System" fn_System_init 4 [] (aCons (mFld "System" "dimension_count" (mVar 0)) (aCons (mOp oAdd (mFz 9 (mCall fn_table_list 1 [] (aCons (mVar 0) aNil))) (mFz 9 (mCall fn_table_list 1 [] (aCons (mVar 1) aNil)))) (aCons (mFld "System" "kept_modulus" (mVar 0)) aNil)))))))
def fn_System_beside : FN := fnOf 3 ms_System_beside
/-! ### System.renamed -/
def st_System_renamed : Stmt := (clB (top 26)).getD 11 (.Pass ⟨0, 0, 0, 0⟩)
def d_System_renamed : He.DefD := ⟨("System", some "renamed"), "renamed", "System.renamed", defArgs st_System_renamed, defBody st_System_renamed, defScope st_System_renamed, [], []⟩
def N_System_renamed : List Str := ["self", "names", "old", "later", "tables", "name", "constant", "reads", "moved", "table", "vector", "factor"]
def bd_System_renamed_1 : MS := (sExpr (mFz 9 (mCall fn_check_table 2 [] (aCons (mVar 0) (aCons (mVar 2) aNil)))))
def ce_System_renamed_3 : ME := (mDGet2 (mVar 1) (mVar 2) (mVar 2))
def bd_System_renamed_4 : MS := (sIf (tOr (tNot (tTru (mFz 9 (mCall fn_is_name 1 [] (aCons (mOp oIx (mVar 1) (mVar 2)) aNil))))) (tVal (mOp oGt (mBM isLst oCountT (mListVals (mVar 3)) (aCons (mOp oIx (mVar 1) (mVar 2)) aNil)) (mC (.int 1))))) (sRaise "InvalidName" (mOp oIx (mVar 1) (mVar 2))) sNext)
def ce_System_renamed_5 : ME := (mTup (aCons (mOp oIx (mVar 3) (mVar 9)) (aCons (mVar 10) (aCons (mVar 11) aNil))))
def bd_System_renamed_6 : MS := (sSeq (sSet 8 (mComp (iAny (mVar 7)) (.tp [(.nm 9), (.nm 10), (.nm 11)]) tYesE ce_System_renamed_5 [9, 10, 11]))
    (sExpr (mBM isLst oAppend (mVar 4) (aCons (mTup (aCons (mOp oIx (mVar 3) (mVar 5)) (aCons (mVar 6) (aCons (mVar 8) aNil)))) aNil))))
def ms_System_renamed : MS := (sSeq (sFor (iAny (mCB bSortD (aCons (mVar 1) aNil))) (.nm 2) bd_System_renamed_1)
    (sSeq (sSet 3 (mFz 9 (mDComp (iAny (mFld "System" "kept_tables" (mVar 0))) (.nm 2) tYesE (mVar 2) ce_System_renamed_3 [2])))
    (sSeq (sFor (iAny (mCB bSortD (aCons (mVar 1) aNil))) (.nm 2) bd_System_renamed_4)
    (sSeq (sSet 4 (mLstR aNil))
    (sSeq (sFor (iAny (mFz 9 (mCall fn_table_list 1 [] (aCons (mVar 0) aNil)))) (.tp [(.nm 5), (.nm 6), (.nm 7)]) bd_System_renamed_6)
    (sFzV 4 (sRet (mFz 9 (mMake "System" fn_System_init 4 [] (aCons (mFld "System" "dimension_count" (mVar 0)) (aCons (mVar 4) (aCons (mFld "System" "kept_modulus" (mVar 0)) aNil))))))))))))
def fn_System_renamed : FN := fnOf 12 ms_System_renamed
/-! ### System.exchanged -/
def st_System_exchanged : Stmt := (clB (top 26)).getD 12 (.Pass ⟨0, 0, 0, 0⟩)
def d_System_exchanged : He.DefD := ⟨("System", some "exchanged"), "exchanged", "System.exchanged", defArgs st_System_exchanged, defBody st_System_exchanged, defScope st_System_exchanged, [], []⟩
def N_System_exchanged : List Str := ["self", "axes", "tables", "name", "constant", "reads", "turned", "table", "vector", "factor", "axis"]
def ce_System_exchanged_2 : ME := (mTup (aCons (mVar 7) (aCons (mCB bTuple (aCons (mComp (iAny (mVar 1)) (.nm 10) tYesE (mOp oIx (mVar 8) (mVar 10)) [10]) aNil)) (aCons (mVar 9) aNil))))
def bd_System_exchanged_3 : MS := (sSeq (sSet 6 (mComp (iAny (mVar 5)) (.tp [(.nm 7), (.nm 8), (.nm 9)]) tYesE ce_System_exchanged_2 [7, 8, 9]))
    (sExpr (mBM isLst oAppend (mVar 2) (aCons (mTup (aCons (mVar 3) (aCons (mVar 4) (aCons (mVar 6) aNil)))) aNil))))
def ms_System_exchanged : MS := (sSeq (sIf (tVal (mOp (cEq true) (mCB bSortU (aCons (mVar 1) aNil)) (mLstRg (mFld "System" "dimension_count" (mVar 0))))) (sRaise "InvalidAxes" (mVar 1)) sNext)
    (sSeq (sSet 2 (mLstR aNil))
    (sSeq (sFor (iAny (mFz 9 (mCall fn_table_list 1 [] (aCons (mVar 0) aNil)))) (.tp [(.nm 3), (.nm 4), (.nm 5)]) bd_System_exchanged_3)
    (sFzV 2 (sRet (mFz 9 (mMake "System" fn_System_init 4 [] (aCons (mFld "System" "dimension_count" (mVar 0)) (aCons (mVar 2) (aCons (mFld "System" "kept_modulus" (mVar 0)) aNil))))))))))
def fn_System_exchanged : FN := fnOf 11 ms_System_exchanged
/-! ### _law_caught -/
def st__law_caught : Stmt := top 33
def d__law_caught : He.DefD := ⟨("_law_caught", none), "_law_caught", "_law_caught", defArgs st__law_caught, defBody st__law_caught, defScope st__law_caught, [], []⟩
def N__law_caught : List Str := ["_law_e", "_law_some", "_law_words", "_law_word", "_law_so"]
def ms__law_caught (a : Addr) : MS := (sSeq (sSet 1 (mLst (aCons (mTup (aCons (mC (.str "number")) (aCons (mCB (bIsE er.es) (aCons (mAs (mVar 0)) (aCons (mC (.glo "InvalidNumber")) aNil))) aNil))) (aCons (mTup (aCons (mC (.str "system")) (aCons (mCB (bIsE er.es) (aCons (mAs (mVar 0)) (aCons (mC (.glo "InvalidSystem")) aNil))) aNil))) aNil))))
    (sSeq (sSet 1 (mOp oAdd (mVar 1) (mLst (aCons (mTup (aCons (mC (.str "name")) (aCons (mCB (bIsE er.es) (aCons (mAs (mVar 0)) (aCons (mC (.glo "InvalidName")) aNil))) aNil))) (aCons (mTup (aCons (mC (.str "axes")) (aCons (mCB (bIsE er.es) (aCons (mAs (mVar 0)) (aCons (mC (.glo "InvalidAxes")) aNil))) aNil))) aNil)))))
    (sSeq (sSet 1 (mOp oAdd (mVar 1) (mLst (aCons (mTup (aCons (mC (.str "table")) (aCons (mCB (bIsE er.es) (aCons (mAs (mVar 0)) (aCons (mC (.glo "UnknownTable")) aNil))) aNil))) (aCons (mTup (aCons (mC (.str "cell")) (aCons (mCB (bIsE er.es) (aCons (mAs (mVar 0)) (aCons (mC (.glo "InvalidCell")) aNil))) aNil))) aNil)))))
    (sSeq (sSet 1 (mOp oAdd (mVar 1) (mLst (aCons (mTup (aCons (mC (.str "read")) (aCons (mCB (bIsE er.es) (aCons (mAs (mVar 0)) (aCons (mC (.glo "InvalidRead")) aNil))) aNil))) (aCons (mTup (aCons (mC (.str "shifts")) (aCons (mCB (bIsE er.es) (aCons (mAs (mVar 0)) (aCons (mC (.glo "InvalidShifts")) aNil))) aNil))) aNil)))))
    (sSeq (sSet 1 (mOp oAdd (mVar 1) (mLst (aCons (mTup (aCons (mC (.str "ready")) (aCons (mCB (bIsE er.es) (aCons (mAs (mVar 0)) (aCons (mC (.glo "NotReady")) aNil))) aNil))) (aCons (mTup (aCons (mC (.str "far")) (aCons (mCB (bIsE er.es) (aCons (mAs (mVar 0)) (aCons (mC (.glo "NoFar")) aNil))) aNil))) aNil)))))
    (sSeq (sSet 1 (mOp oAdd (mVar 1) (mLst (aCons (mTup (aCons (mC (.str "undo")) (aCons (mCB (bIsE er.es) (aCons (mAs (mVar 0)) (aCons (mC (.glo "NothingToUndo")) aNil))) aNil))) (aCons (mTup (aCons (mC (.str "text")) (aCons (mCB (bIsE er.es) (aCons (mAs (mVar 0)) (aCons (mC (.glo "Unreadable")) aNil))) aNil))) aNil)))))
    (sSeq (sSet 2 (mCompH a (mVar 1) (.tp [(.nm 3), (.nm 4)]) (tTru (mVar 4)) (mVar 3) [3, 4]))
    (sRet (mIf (tAnd (tVal (mOp (cEqI false) (mCB bLen (aCons (mVar 2) aNil)) (mC (.int 1)))) (tTru (mCB (bIsE er.es) (aCons (mAs (mVar 0)) (aCons (mC (.ty "ValueError")) aNil))))) (mTup (aCons (mOp oIxL (mVar 2) (mC (.int 0))) (aCons (mXv er.es (mAs (mVar 0))) aNil))) (mC (.str "odd")))))))))))
def fn__law_caught (a : Addr) : FN := fnOf 5 (ms__law_caught a)
/-! ### _law_raised -/
def st__law_raised : Stmt := top 35
def d__law_raised : He.DefD := ⟨("_law_raised", none), "_law_raised", "_law_raised", defArgs st__law_raised, defBody st__law_raised, defScope st__law_raised, [], []⟩
def N__law_raised : List Str := ["_law_door", "_law_made", "_law_given", "_law_e"]
def ms__law_raised : MS := (sSeq (sTryH er.es "ReadError" 3 (sIf (tVal (mOp (cEq false) (mVar 0) (mC (.int 0)))) (sExpr (mMeth "System" "constant" fn_System_constant 2 [] (mVar 1) (aCons (mVar 2) aNil))) (sIf (tVal (mOp (cEq false) (mVar 0) (mC (.int 1)))) (sExpr (mMeth "System" "reads" fn_System_reads 2 [] (mVar 1) (aCons (mVar 2) aNil))) (sIf (tVal (mOp (cEq false) (mVar 0) (mC (.int 2)))) (sExpr (mMeth "System" "without" fn_System_without 2 [] (mVar 1) (aCons (mVar 2) aNil))) (sIf (tVal (mOp (cEq false) (mVar 0) (mC (.int 3)))) (sExpr (mMeth "System" "beside" fn_System_beside 2 [] (mVar 1) (aCons (mVar 2) aNil))) (sIf (tVal (mOp (cEq false) (mVar 0) (mC (.int 4)))) (sExpr (mMeth "System" "renamed" fn_System_renamed 2 [] (mVar 1) (aCons (mVar 2) aNil))) (sExpr (mMeth "System" "exchanged" fn_System_exchanged 2 [] (mVar 1) (aCons (mVar 2) aNil)))))))) (fun a => (sRet (mCallH (fn__law_caught a) 1 (aCons (mVar 3) aNil)))))
    (sRet (mC (.str "fine"))))
def fn__law_raised : FN := fnOf 4 ms__law_raised
/-! ### _law_reads_right -/
def st__law_reads_right : Stmt := top 37
def d__law_reads_right : He.DefD := ⟨("_law_reads_right", none), "_law_reads_right", "_law_reads_right", defArgs st__law_reads_right, defBody st__law_reads_right, defScope st__law_reads_right, [], []⟩
def N__law_reads_right : List Str := ["_law_rng_here", "_law_made", "_law_words", "_law_some", "_law_word", "_law_odd", "_law_gone", "_law_wrong", "_law_due", "_law_one"]
def bd__law_reads_right_1 : MS := (sSeq (sSet 8 (mIf (tVal (mOp (cIn false) (mVar 4) (mVar 2))) (mC (.str "fine")) (mTup (aCons (mC (.str "table")) (aCons (mVar 4) aNil)))))
    (sIf (tVal (mOp (cEq true) (mLst (aCons (mFz 9 (mCall fn__law_raised 3 [] (aCons (mC (.int 0)) (aCons (mVar 1) (aCons (mVar 4) aNil))))) (aCons (mFz 9 (mCall fn__law_raised 3 [] (aCons (mC (.int 1)) (aCons (mVar 1) (aCons (mVar 4) aNil))))) aNil))) (mLst (aCons (mVar 8) (aCons (mVar 8) aNil))))) (sRet (mC (.bl false))) sNext))
def ms__law_reads_right : MS := (sSeq (sAsg (.tp [(.nm 2), (.nm 3)]) (mTup (aCons (mFz 9 (mProp "System" fn_System_names 1 [] (mVar 1))) (aCons (mFz 9 (mMeth "System" "all_reads" fn_System_all_reads 1 [] (mVar 1) aNil)) aNil))))
    (sSeq (sFor (iAny (mLst (aCons (mC (.str "")) (aCons (mC (.str "x")) (aCons (mC (.str "A")) (aCons (mOp oAdd (mOp oIx (mVar 2) (mC (.int 0))) (mC (.str "a"))) (aCons (mOp oIx (mVar 2) (mC (.int 0))) aNil))))))) (.nm 4) bd__law_reads_right_1)
    (sSeq (sSet 5 (mOp oAdd (mLst (aCons (mTup (aCons (mOp oIx (mVar 2) (mC (.int 0))) (aCons (mCB bLen (aCons (mNox (mFz 9 (mMeth "System" "reads" fn_System_reads 2 [] (mVar 1) (aCons (mOp oIx (mVar 2) (mC (.int 0))) aNil)))) aNil)) aNil))) (aCons (mTup (aCons (mC (.str "x")) (aCons (mC (.int 0)) aNil))) (aCons (mTup (aCons (mOp oIx (mVar 2) (mUn oNeg (mC (.int 1)))) (aCons (mUn oNeg (mC (.int 1))) aNil))) (aCons (mTup (aCons (mOp oIx (mVar 2) (mC (.int 0))) (aCons (mOp oPow (mC (.int 10)) (mC (.int 30))) aNil))) aNil))))) (mSl oSlice (mVar 3) mNo (mPt (mC (.int 2))))))
    (sSeq (sSet 6 (mFz 9 (mCall fn__law_mixed 2 [] (aCons (mVar 0) (aCons (mOp oAdd (mSl oSlice (mVar 3) mNo (mPt (mC (.int 3)))) (mSl oSlice (mVar 5) mNo (mPt (mFz 9 (mCall fn__law_draw 2 [] (aCons (mVar 0) (aCons (mC (.int 7)) aNil))))))) aNil)))))
    (sSeq (sSet 7 (mComp (iAny (mVar 6)) (.nm 9) (tVal (mOp (cIn true) (mVar 9) (mVar 3))) (mVar 9) [9]))
    (sRet (mOp (cEq false) (mFz 9 (mCall fn__law_raised 3 [] (aCons (mC (.int 2)) (aCons (mVar 1) (aCons (mVar 6) aNil))))) (mIf (tVal (mOp (cEq true) (mVar 7) (mLst aNil))) (mTup (aCons (mC (.str "read")) (aCons (mOp oIx (mVar 7) (mC (.int 0))) aNil))) (mC (.str "fine"))))))))))
def fn__law_reads_right : FN := fnOf 10 ms__law_reads_right
/-! ### _law_beside_right -/
def st__law_beside_right : Stmt := top 38
def d__law_beside_right : He.DefD := ⟨("_law_beside_right", none), "_law_beside_right", "_law_beside_right", defArgs st__law_beside_right, defBody st__law_beside_right, defScope st__law_beside_right, [], []⟩
def N__law_beside_right : List Str := ["_law_rng_here", "_law_made", "_law_free", "_law_words", "_law_others", "_law_second", "_law_common", "_law_word"]
def ce__law_beside_right_1 : ME := (mTup (aCons (mVar 7) (aCons (mC (.int 0)) (aCons (mLst aNil) aNil))))
def ms__law_beside_right : MS := (sSeq (sAsg (.tp [(.nm 2), (.nm 3)]) (mTup (aCons (mLst (aCons (mC (.str "m")) (aCons (mC (.str "n")) (aCons (mC (.str "o")) aNil)))) (aCons (mFz 9 (mProp "System" fn_System_names 1 [] (mVar 1))) aNil))))
    (sSeq (sSet 4 (mFz 9 (mCall fn__law_mixed 2 [] (aCons (mVar 0) (aCons (mOp oAdd (mSl oSlice (mVar 2) mNo (mPt (mOp oAdd (mC (.int 1)) (mFz 9 (mCall fn__law_draw 2 [] (aCons (mVar 0) (aCons (mC (.int 2)) aNil))))))) (mSl oSlice (mFz 9 (mCall fn__law_mixed 2 [] (aCons (mVar 0) (aCons (mVar 3) aNil)))) mNo (mPt (mFz 9 (mCall fn__law_draw 2 [] (aCons (mVar 0) (aCons (mC (.int 3)) aNil))))))) aNil)))))
    (sSeq (sSet 5 (mFz 9 (mMake "System" fn_System_init 4 [] (aCons (mFz 9 (mProp "System" fn_System_dimensions 1 [] (mVar 1))) (aCons (mComp (iAny (mVar 4)) (.nm 7) tYesE ce__law_beside_right_1 [7]) (aCons (mFz 9 (mProp "System" fn_System_modulus 1 [] (mVar 1))) aNil))))))
    (sSeq (sSet 6 (mCB bSortS (aCons (mComp (iAny (mVar 4)) (.nm 7) (tVal (mOp (cIn false) (mVar 7) (mVar 3))) (mVar 7) [7]) aNil)))
    (sSeq (sIf (tVal (mOp oGt (mOp oAdd (mCB bLen (aCons (mVar 3) aNil)) (mCB bLen (aCons (mVar 4) aNil))) (mC (.int 6)))) (sRet (mC (.bl true))) sNext)
    (sRet (mOp (cEq false) (mFz 9 (mCall fn__law_raised 3 [] (aCons (mC (.int 3)) (aCons (mVar 1) (aCons (mVar 5) aNil))))) (mIf (tVal (mOp (cEq true) (mVar 6) (mLst aNil))) (mTup (aCons (mC (.str "name")) (aCons (mOp oIx (mVar 6) (mC (.int 0))) aNil))) (mC (.str "fine"))))))))))
def fn__law_beside_right : FN := fnOf 8 ms__law_beside_right
/-! ### _law_renamed_due -/
def st__law_renamed_due : Stmt := top 36
def d__law_renamed_due : He.DefD := ⟨("_law_renamed_due", none), "_law_renamed_due", "_law_renamed_due", defArgs st__law_renamed_due, defBody st__law_renamed_due, defScope st__law_renamed_due, [], []⟩
def N__law_renamed_due : List Str := ["_law_words", "_law_turned", "_law_old", "_law_later", "_law_new", "_law_odd", "_law_word", "_law_sign"]
def bd__law_renamed_due_1 : MS := (sIf (tVal (mOp (cIn true) (mVar 2) (mVar 0))) (sRet (mTup (aCons (mC (.str "table")) (aCons (mVar 2) aNil)))) sNext)
def ce__law_renamed_due_2 : ME := (mDGet2 (mVar 1) (mVar 6) (mVar 6))
def bd__law_renamed_due_4 : MS := (sSeq (sSet 4 (mOp oIx (mVar 1) (mVar 2)))
    (sSeq (sSet 5 (mComp (iAny (mVar 4)) (.nm 7) (tVal (mOp (cIn true) (mVar 7) (mC (.str "abcdefghijklmnopqrstuvwxyz")))) (mVar 7) [7]))
    (sIf (tOr (tVal (mOp (cEq true) (mVar 5) (mLst aNil))) (tOr (tNot (tVal (mChain oLe oLe (mC (.int 1)) (mCB bLen (aCons (mVar 4) aNil)) (mC (.int 8))))) (tVal (mOp oGt (mBM isLst oCountT (mVar 3) (aCons (mVar 4) aNil)) (mC (.int 1)))))) (sRet (mTup (aCons (mC (.str "name")) (aCons (mVar 4) aNil)))) sNext)))
def ms__law_renamed_due : MS := (sSeq (sFor (iAny (mCB bSortD (aCons (mVar 1) aNil))) (.nm 2) bd__law_renamed_due_1)
    (sSeq (sSet 3 (mComp (iAny (mVar 0)) (.nm 6) tYesE ce__law_renamed_due_2 [6]))
    (sSeq (sFor (iAny (mCB bSortD (aCons (mVar 1) aNil))) (.nm 2) bd__law_renamed_due_4)
    (sRet (mC (.str "fine"))))))
def fn__law_renamed_due : FN := fnOf 8 ms__law_renamed_due
/-! ### law -/
def st_law : Stmt := top 39
def d_law : He.DefD := ⟨("law", none), "law", "law", defArgs st_law, defBody st_law, defScope st_law, [], []⟩
def N_law : List Str := ["_law_script", "_law_rng_here", "_law_lap", "_law_dims", "_law_made", "_law_kept", "_law_words", "_law_turn", "_law_turned", "_law_old", "_law_due"]
def bd_law_1 : MS := (sDPutE (mVar 8) (mVar 9) (mOp oIx (mOp oAdd (mLst (aCons (mC (.str "q")) (aCons (mC (.str "B")) (aCons (mC (.str "")) (aCons (mC (.str "abcdefghi")) (aCons (mC (.str "abcdefgh")) aNil)))))) (mVar 6)) (mFz 9 (mCall fn__law_draw 2 [] (aCons (mVar 1) (aCons (mOp oAdd (mC (.int 5)) (mCB bLen (aCons (mVar 6) aNil))) aNil))))))
def bd_law_2 : MS := (sSeq (sSet 8 mDNew)
    (sSeq (sFor (iAny (mSl oSlice (mFz 9 (mCall fn__law_mixed 2 [] (aCons (mVar 1) (aCons (mOp oAdd (mVar 6) (mLst (aCons (mC (.str "x")) (aCons (mC (.str "zzz")) aNil)))) aNil)))) mNo (mPt (mOp oAdd (mC (.int 1)) (mFz 9 (mCall fn__law_draw 2 [] (aCons (mVar 1) (aCons (mC (.int 3)) aNil)))))))) (.nm 9) bd_law_1)
    (sIf (tVal (mOp (cEq true) (mFz 9 (mCall fn__law_raised 3 [] (aCons (mC (.int 4)) (aCons (mVar 4) (aCons (mVar 8) aNil))))) (mFz 9 (mCall fn__law_renamed_due 2 [] (aCons (mVar 6) (aCons (mVar 8) aNil)))))) (sRet (mC (.bl false))) sNext)))
def bd_law_3 : MS := (sSeq (sSet 10 (mIf (tVal (mOp (cEq false) (mCB bSortU (aCons (mVar 7) aNil)) (mLstRg (mVar 3)))) (mC (.str "fine")) (mTup (aCons (mC (.str "axes")) (aCons (mVar 7) aNil)))))
    (sIf (tVal (mOp (cEq true) (mFz 9 (mCall fn__law_raised 3 [] (aCons (mC (.int 5)) (aCons (mVar 4) (aCons (mVar 7) aNil))))) (mVar 10))) (sRet (mC (.bl false))) sNext))
def bd_law_4 : MS := (sSeq (sSet 3 (mOp oAdd (mC (.int 1)) (mFz 9 (mCall fn__law_draw 2 [] (aCons (mVar 1) (aCons (mC (.int 3)) aNil))))))
    (sSeq (sSet 4 (mFz 9 (mMake "System" fn_System_init 4 [] (aCons (mVar 3) (aCons (mFz 9 (mCall fn__law_made_rows 5 [] (aCons (mVar 1) (aCons (mVar 3) (aCons (mOp oAdd (mC (.int 1)) (mFz 9 (mCall fn__law_draw 2 [] (aCons (mVar 1) (aCons (mC (.int 6)) aNil))))) (aCons (mC (.int 10)) (aCons (mC (.int 5)) aNil))))))) (aCons (mC (.int 97)) aNil))))))
    (sSeq (sPar 5 6 (aCons (mFz 9 (mCall fn__law_shown 1 [] (aCons (mVar 4) aNil))) (aCons (mFz 9 (mProp "System" fn_System_names 1 [] (mVar 4))) aNil)))
    (sSeq (sIf (tOr (tNot (tTru (mFz 9 (mCall fn__law_reads_right 2 [] (aCons (mVar 1) (aCons (mVar 4) aNil)))))) (tNot (tTru (mFz 9 (mCall fn__law_beside_right 2 [] (aCons (mVar 1) (aCons (mVar 4) aNil))))))) (sRet (mC (.bl false))) sNext)
    (sSeq (sFor (iRange1 (aCons (mC (.int 4)) aNil)) (.nm 7) bd_law_2)
    (sSeq (sFor (iAny (mLst (aCons (mTup aNil) (aCons (mSl oSlice (mTup (aCons (mC (.int 0)) (aCons (mC (.int 0)) (aCons (mC (.int 0)) aNil)))) mNo (mPt (mVar 3))) (aCons (mTup (aCons (mC (.int 1)) (aCons (mC (.int 0)) aNil))) (aCons (mTup (aCons (mC (.int 0)) (aCons (mC (.int 1)) aNil))) (aCons (mTup (aCons (mC (.int 0)) (aCons (mC (.int 2)) (aCons (mC (.int 1)) aNil)))) (aCons (mTup (aCons (mUn oNeg (mC (.int 1))) (aCons (mC (.int 0)) aNil))) (aCons (mTup (aCons (mC (.int 0)) aNil)) (aCons (mTup (aCons (mC (.int 1)) (aCons (mC (.int 2)) (aCons (mC (.int 3)) aNil)))) (aCons (mTup (aCons (mC (.int 2)) (aCons (mC (.int 1)) (aCons (mC (.int 0)) (aCons (mC (.int 3)) aNil))))) aNil))))))))))) (.nm 7) bd_law_3)
    (sIf (tVal (mOp (cEq true) (mFz 9 (mCall fn__law_shown 1 [] (aCons (mVar 4) aNil))) (mVar 5))) (sRet (mC (.bl false))) sNext)))))))
def ms_law : MS := (sSeq (sSet 1 (mCall fn__law_rng 1 [] (aCons (mVar 0) aNil)))
    (sSeq (sFor (iRange1 (aCons (mOp oAdd (mC (.int 8)) (mCB bMin (aCons (mC (.int 10)) (aCons (mCB bLen (aCons (mVar 0) aNil)) aNil)))) aNil)) (.nm 2) bd_law_4)
    (sRet (mC (.bl true)))))
def fn_law : FN := fnOf 11 ms_law
def facts : List He.Fa := [.free "abs", .free "int", .glo "_law_rng", .free "range", .free "len", .free "min", .glo "_law_draw", .int "MOST_DIMENSIONS" 3, .int "MOST_TABLES" 6, .free "enumerate", .int "MOST_LETTERS" 8, .str "LETTERS" "abcdefghijklmnopqrstuvwxyz", .free "all", .glo "is_name", .int "MOST_READS" 12, .glo "is_read", .glo "check_system", .glo "System", .cls "System", .noat "System" "dimension_count", .noat "System" "kept_modulus", .noat "System" "kept_tables", .free "sorted", .free "tuple", .noat "System" "named_reads", .mkr "System", .free "list", .glo "_law_mixed", .glo "_law_vector", .glo "_law_made_rows", .glo "check_table", .meth "System" "reads", .meth "System" "constant", .meth "System" "__len__", .meth "System" "all_reads", .free "repr", .glo "_law_shown", .glo "check_read", .glo "table_list", .meth "System" "without", .meth "System" "beside", .meth "System" "renamed", .meth "System" "exchanged", .glo "InvalidSystem", .free "isinstance", .glo "InvalidNumber", .glo "InvalidAxes", .glo "InvalidName", .glo "InvalidCell", .glo "UnknownTable", .glo "InvalidShifts", .glo "InvalidRead", .glo "NoFar", .glo "NotReady", .glo "Unreadable", .glo "NothingToUndo", .free "ValueError", .glo "_law_caught", .glo "_law_raised", .glo "_law_reads_right", .glo "_law_beside_right", .glo "_law_renamed_due", .glo "law"]
def defs : List He.DefD := [d_law, d__law_rng, d__law_draw, d_System_init, d_check_system, d_is_name, d_is_read, d__law_made_rows, d__law_mixed, d__law_vector, d__law_shown, d_System_reads, d_check_table, d_System_constant, d_System_dlen, d_System_all_reads, d__law_reads_right, d__law_raised, d_System_without, d_check_read, d_table_list, d_System_beside, d_System_renamed, d_System_exchanged, d__law_caught, d__law_beside_right, d__law_renamed_due]
def gets : List GetD := [p_System_names, p_System_modulus, p_System_dimensions]
theorem sc__law_rng : FnScope N__law_rng (N__law_rng.take 1) (defScope st__law_rng) := ⟨rfl, rfl, rfl, by decide +kernel, rfl, by decide +kernel, by decide +kernel⟩
theorem ok__law_rng {w : World} {K : PySem.W.Frag} {mg : Str → Option Value} {base : Heap} (W : Wd facts defs gets errs K mg base) {fd : FuncData} (F : FunD K "_law_rng" "_law_rng" (defArgs st__law_rng) (defBody st__law_rng) (defScope st__law_rng) [] [] (He.fAd K d__law_rng.at_) fd) :
    FnG prg w K mg base CX0 1 (He.fAd K d__law_rng.at_) fd (N__law_rng.take 1) (spOf K mg 1 fn__law_rng) := by
  have b_abs := W.free 0 (x := "abs") rfl
  have b_int := W.free 1 (x := "int") rfl
  refine fn_ok0 (ms := ms__law_rng) F sc__law_rng fun cdv A outer s H E hr => ?_
  unfold ms__law_rng
  exact (rs_cons (rs_asg (re_tup (ra_cons re_int (ra_cons re_int ra_nil))) (rg_tp rfl (rgs_cons (rg_nm sc__law_rng.nd) (rgs_cons (rg_nm sc__law_rng.nd) rgs_nil))))
    (rs_cons (rs_for PassesOwn.never rfl (ri_any (re_slice sl_any (re_var 0) ro_no (ro_some re_int))) (rg_nm sc__law_rng.nd) (rs_cons (rs_set (i := 4) sc__law_rng.nd (re_cb cb_abs rfl b_abs (by rfl) (ra_cons (re_var 3) ra_nil)))
    (rs_cons (rs_if (rt_cmp op_ge_int (re_var 4) (re_op op_pow_int re_int re_int) (by rfl)) (rs_one (rs_set (i := 1) sc__law_rng.nd (re_op op_add_any (re_op op_mul_any (re_var 1) (re_op op_pow_int re_int re_int)) (re_op op_mod_int (re_cty cb_int rfl b_int (by rfl) (ra_cons (re_var 4) ra_nil)) (re_op op_pow_int re_int re_int))))) rs_nil)
    (rs_one (rs_set (i := 2) sc__law_rng.nd (re_op op_mod_int (re_cty cb_int rfl b_int (by rfl) (ra_cons (re_op op_add_any (re_op op_add_any (re_op op_mul_any (re_var 2) re_int) (re_op op_mod_int (re_cty cb_int rfl b_int (by rfl) (ra_cons (re_var 3) ra_nil)) re_int)) re_int) ra_nil)) re_int))))))
    (rs_one (rs_ret (re_lstR (ra_cons (re_var 1) (ra_cons (re_var 2) (ra_cons re_int ra_nil))))))))
theorem sc__law_draw : FnScope N__law_draw (N__law_draw.take 2) (defScope st__law_draw) := ⟨rfl, rfl, rfl, by decide +kernel, rfl, by decide +kernel, by decide +kernel⟩
theorem ok__law_draw {w : World} {K : PySem.W.Frag} {mg : Str → Option Value} {base : Heap} (W : Wd facts defs gets errs K mg base) {fd : FuncData} (F : FunD K "_law_draw" "_law_draw" (defArgs st__law_draw) (defBody st__law_draw) (defScope st__law_draw) [] [] (He.fAd K d__law_draw.at_) fd) :
    FnG prg w K mg base CX0 1 (He.fAd K d__law_draw.at_) fd (N__law_draw.take 2) (spOf K mg 2 fn__law_draw) := by
  have b_int := W.free 1 (x := "int") rfl
  refine fn_ok0 (ms := ms__law_draw) F sc__law_draw fun cdv A outer s H E hr => ?_
  unfold ms__law_draw
  exact (rs_cons (rs_if (rt_cmp op_gt_int (re_sub (ix_any hr) (re_var 0) re_int (fun _ _ => rfl)) re_int (by rfl)) (rs_cons (rs_set (i := 3) sc__law_draw.nd (re_op op_mod_int (re_cty cb_int rfl b_int (by rfl) (ra_cons (re_sub (ix_any hr) (re_var 0) re_int (fun _ _ => rfl)) ra_nil)) (re_var 1)))
    (rs_cons (rs_lput (re_var 0) re_int (re_op op_div_int (re_sub (ix_any hr) (re_var 0) re_int (fun _ _ => rfl)) (re_var 1)))
    (rs_one (rs_ret (re_var 3))))) rs_nil)
    (rs_cons (rs_lput (re_var 0) re_int (re_op op_add_any (re_sub (ix_any hr) (re_var 0) re_int (fun _ _ => rfl)) re_int))
    (rs_cons (rs_set (i := 2) sc__law_draw.nd (re_op op_mod_int (re_cty cb_int rfl b_int (by rfl) (ra_cons (re_op op_pow_int (re_op op_add_any (re_sub (ix_any hr) (re_var 0) re_int (fun _ _ => rfl)) (re_op op_mul_any re_int (re_sub (ix_any hr) (re_var 0) re_int (fun _ _ => rfl)))) re_int) ra_nil)) re_int))
    (rs_cons (rs_set (i := 2) sc__law_draw.nd (re_op op_mod_int (re_cty cb_int rfl b_int (by rfl) (ra_cons (re_op op_pow_int (re_op op_add_any (re_var 2) (re_op op_mul_any re_int (re_sub (ix_any hr) (re_var 0) re_int (fun _ _ => rfl)))) re_int) ra_nil)) re_int))
    (rs_one (rs_ret (re_op op_mod_int (re_cty cb_int rfl b_int (by rfl) (ra_cons (re_op op_div_int (re_var 2) re_int) ra_nil)) (re_var 1))))))))
theorem sc_is_name : FnScope N_is_name (N_is_name.take 1) (defScope st_is_name) := ⟨rfl, rfl, rfl, by decide +kernel, rfl, by decide +kernel, by decide +kernel⟩
theorem ok_is_name {w : World} {K : PySem.W.Frag} {mg : Str → Option Value} {base : Heap} (W : Wd facts defs gets errs K mg base) {fd : FuncData} (F : FunD K "is_name" "is_name" (defArgs st_is_name) (defBody st_is_name) (defScope st_is_name) [] [] (He.fAd K d_is_name.at_) fd) :
    FnG prg w K mg base CX0 1 (He.fAd K d_is_name.at_) fd (N_is_name.take 1) (spOf K mg 1 fn_is_name) := by
  have b_len := W.free 4 (x := "len") rfl
  obtain ⟨t_MOST_LETTERS, k_MOST_LETTERS⟩ := W.int 10 (x := "MOST_LETTERS") (n := 8) rfl
  obtain ⟨t_LETTERS, k_LETTERS⟩ := W.str 11 (x := "LETTERS") (z := "abcdefghijklmnopqrstuvwxyz") rfl
  have b_all := W.free 12 (x := "all") rfl
  refine fn_ok0 (ms := ms_is_name) F sc_is_name fun cdv A outer s H E hr => ?_
  unfold ms_is_name
  exact (rs_one (rs_ret (re_and (re_chain op_le_int op_le_int re_int (re_cb cb_len rfl b_len (by rfl) (ra_cons (re_var 0) ra_nil)) (re_glo (y := .int 8) (v := .int 8) rfl k_MOST_LETTERS ⟨_, rfl⟩ (fun _ _ _ => rfl))) (re_one (re_cb (cb_all rfl) rfl b_all (by rfl) (ra_cons (re_comp (own := [("sign", 1)]) rfl sc_is_name.nd (ri_any (re_var 0)) (blkOk_by (own := [("sign", 1)]) (by kernel_rfl)) (fun _ _ _ _ _ => (rg_nm sc_is_name.nd)) (fun _ _ _ _ _ => rts_nil) (fun _ _ _ _ _ => (re_cmp (op_in_any hr) (re_var 1) (re_glo (y := .str "abcdefghijklmnopqrstuvwxyz") (v := .str "abcdefghijklmnopqrstuvwxyz") rfl k_LETTERS ⟨_, rfl⟩ (fun _ _ _ => rfl)) (by rfl)))) ra_nil))))))
theorem sc_is_read : FnScope N_is_read (N_is_read.take 2) (defScope st_is_read) := ⟨rfl, rfl, rfl, by decide +kernel, rfl, by decide +kernel, by decide +kernel⟩
theorem ok_is_read {w : World} {K : PySem.W.Frag} {mg : Str → Option Value} {base : Heap} (W : Wd facts defs gets errs K mg base) {fd : FuncData} (F : FunD K "is_read" "is_read" (defArgs st_is_read) (defBody st_is_read) (defScope st_is_read) [] [] (He.fAd K d_is_read.at_) fd) :
    FnG prg w K mg base CX0 2 (He.fAd K d_is_read.at_) fd (N_is_read.take 2) (spOf K mg 2 fn_is_read) := by
  obtain ⟨fd_is_name, F_is_name⟩ := W.c.def_ 5 (d := d_is_name) rfl
  have G_is_name := ok_is_name (w := w) W F_is_name
  have g_is_name := W.glo 13 (x := "is_name") rfl
  have B_is_name := FunD.bindsN (ps := N_is_name.take 1) F_is_name (fun _ _ _ _ _ _ us hl => match us, hl with | [_], _ => rfl)
  have b_len := W.free 4 (x := "len") rfl
  refine fn_ok0 (ms := ms_is_read) F sc_is_read fun cdv A outer s H E hr => ?_
  unfold ms_is_read
  exact (rs_cons (rs_asg (re_var 0) (rg_tp rfl (rgs_cons (rg_nm sc_is_read.nd) (rgs_cons (rg_nm sc_is_read.nd) (rgs_cons (rg_nm sc_is_read.nd) rgs_nil)))))
    (rs_one (rs_ret (re_and (re_fz 9 (re_call G_is_name (hr.mono (by decide)) rfl g_is_name F_is_name.kp B_is_name .nil (fun _ _ _ => rfl) pass_any (ra_cons (re_var 2) ra_nil))) (re_and (re_cmp (op_eq_any hr) (re_cb cb_len rfl b_len (by rfl) (ra_cons (re_var 3) ra_nil)) (re_var 1) (by rfl)) (re_one (re_cmp (op_ne_any hr) (re_var 4) re_int (by rfl))))))))
theorem sc_check_system : FnScope N_check_system (N_check_system.take 3) (defScope st_check_system) := ⟨rfl, rfl, rfl, by decide +kernel, rfl, by decide +kernel, by decide +kernel⟩
theorem ok_check_system {w : World} {K : PySem.W.Frag} {mg : Str → Option Value} {base : Heap} (W : Wd facts defs gets errs K mg base) {fd : FuncData} (F : FunD K "check_system" "check_system" (defArgs st_check_system) (defBody st_check_system) (defScope st_check_system) [] [] (He.fAd K d_check_system.at_) fd) :
    FnG prg w K mg base CX0 3 (He.fAd K d_check_system.at_) fd (N_check_system.take 3) (spOf K mg 3 fn_check_system) := by
  obtain ⟨t_MOST_DIMENSIONS, k_MOST_DIMENSIONS⟩ := W.int 7 (x := "MOST_DIMENSIONS") (n := 3) rfl
  have b_len := W.free 4 (x := "len") rfl
  obtain ⟨t_MOST_TABLES, k_MOST_TABLES⟩ := W.int 8 (x := "MOST_TABLES") (n := 6) rfl
  have b_enumerate := W.free 9 (x := "enumerate") rfl
  obtain ⟨fd_is_name, F_is_name⟩ := W.c.def_ 5 (d := d_is_name) rfl
  have G_is_name := ok_is_name (w := w) W F_is_name
  have g_is_name := W.glo 13 (x := "is_name") rfl
  have B_is_name := FunD.bindsN (ps := N_is_name.take 1) F_is_name (fun _ _ _ _ _ _ us hl => match us, hl with | [_], _ => rfl)
  obtain ⟨t_MOST_READS, k_MOST_READS⟩ := W.int 14 (x := "MOST_READS") (n := 12) rfl
  obtain ⟨fd_is_read, F_is_read⟩ := W.c.def_ 6 (d := d_is_read) rfl
  have G_is_read := ok_is_read (w := w) W F_is_read
  have g_is_read := W.glo 15 (x := "is_read") rfl
  have B_is_read := FunD.bindsN (ps := N_is_read.take 2) F_is_read (fun _ _ _ _ _ _ us hl => match us, hl with | [_, _], _ => rfl)
  have b_all := W.free 12 (x := "all") rfl
  refine fn_ok0 (ms := ms_check_system) F sc_check_system fun cdv A outer s H E hr => ?_
  unfold ms_check_system
  exact (rs_cons (rs_if (rt_not (rt_chain op_le_int op_le_int re_int (re_var 0) (re_glo (y := .int 3) (v := .int 3) rfl k_MOST_DIMENSIONS ⟨_, rfl⟩ (fun _ _ _ => rfl)))) (rs_one rs_never) rs_nil)
    (rs_cons (rs_if (rt_not (rt_chain op_le_int op_le_int re_int (re_cb cb_len rfl b_len (by rfl) (ra_cons (re_var 1) ra_nil)) (re_glo (y := .int 6) (v := .int 6) rfl k_MOST_TABLES ⟨_, rfl⟩ (fun _ _ _ => rfl)))) (rs_one rs_never) rs_nil)
    (rs_cons (rs_asg (re_tup (ra_cons re_dnew (ra_cons re_int ra_nil))) (rg_tp rfl (rgs_cons (rg_nm sc_check_system.nd) (rgs_cons (rg_nm sc_check_system.nd) rgs_nil))))
    (rs_cons (rs_for PassesOwn.never rfl (ri_enum rfl b_enumerate (ra_cons (re_var 1) ra_nil)) (rg_tp rfl (rgs_cons (rg_nm sc_check_system.nd) (rgs_cons (rg_tp rfl (rgs_cons (rg_nm sc_check_system.nd) (rgs_cons (rg_nm sc_check_system.nd) (rgs_cons (rg_nm sc_check_system.nd) rgs_nil)))) rgs_nil))) (rs_cons (rs_set (i := 4) sc_check_system.nd (re_op op_add_any (re_var 4) (re_cb cb_len rfl b_len (by rfl) (ra_cons (re_var 8) ra_nil))))
    (rs_cons (rs_set (i := 9) sc_check_system.nd (re_or (re_not (re_fz 9 (re_call G_is_name (hr.mono (by decide)) rfl g_is_name F_is_name.kp B_is_name .nil (fun _ _ _ => rfl) pass_any (ra_cons (re_var 6) ra_nil)))) (re_or (re_cmp (op_in_any hr) (re_var 6) (re_var 3) (by rfl)) (re_one (re_cmp op_gt_int (re_var 4) (re_glo (y := .int 12) (v := .int 12) rfl k_MOST_READS ⟨_, rfl⟩ (fun _ _ _ => rfl)) (by rfl))))))
    (rs_cons (rs_if (PW.pt (rw_or (rt_tru (re_var 9)) (rw_or1 (rt_not (rt_tru (re_cb (cb_all rfl) rfl b_all (by rfl) (ra_cons (re_comp (own := [("read", 13)]) rfl sc_check_system.nd (ri_any (re_var 8)) (blkOk_by (own := [("read", 13)]) (by kernel_rfl)) (fun _ _ _ _ _ => (rg_nm sc_check_system.nd)) (fun _ _ _ _ _ => rts_nil) (fun _ _ _ _ _ => (re_fz 9 (re_call G_is_read (hr.mono (by decide)) rfl g_is_read F_is_read.kp B_is_read .nil (fun _ _ _ => rfl) pass_any (ra_cons (re_var 13) (ra_cons (re_var 0) ra_nil)))))) ra_nil))))))) (rs_one rs_never) rs_nil)
    (rs_one (rs_dput hr (re_var 3) (re_var 6) re_bl))))))
    (rs_cons (rs_for PassesOwn.never rfl (ri_enum rfl b_enumerate (ra_cons (re_var 1) ra_nil)) (rg_tp rfl (rgs_cons (rg_nm sc_check_system.nd) (rgs_cons (rg_tp rfl (rgs_cons (rg_nm sc_check_system.nd) (rgs_cons (rg_nm sc_check_system.nd) (rgs_cons (rg_nm sc_check_system.nd) rgs_nil)))) rgs_nil))) (rs_one (rs_if (rt_not (rt_tru (re_cb (cb_all rfl) rfl b_all (by rfl) (ra_cons (re_comp (own := [("table", 10), ("vector", 11), ("factor", 12)]) rfl sc_check_system.nd (ri_any (re_var 8)) (blkOk_by (own := [("table", 10), ("vector", 11), ("factor", 12)]) (by kernel_rfl)) (fun _ _ _ _ _ => (rg_tp rfl (rgs_cons (rg_nm sc_check_system.nd) (rgs_cons (rg_nm sc_check_system.nd) (rgs_cons (rg_nm sc_check_system.nd) rgs_nil))))) (fun _ _ _ _ _ => rts_nil) (fun _ _ _ _ _ => (re_cmp (op_in_any hr) (re_var 10) (re_var 3) (by rfl)))) ra_nil)))) (rs_one rs_never) rs_nil)))
    (rs_one (rs_if (rt_cmp op_lt_int (re_var 2) re_int (by rfl)) (rs_one rs_never) rs_nil)))))))
theorem sc_System_init : FnScope N_System_init (N_System_init.take 4) (defScope st_System_init) := ⟨rfl, rfl, rfl, by decide +kernel, rfl, by decide +kernel, by decide +kernel⟩
theorem ok_System_init {w : World} {K : PySem.W.Frag} {mg : Str → Option Value} {base : Heap} (W : Wd facts defs gets errs K mg base) {fd : FuncData} (F : FunD K "__init__" "System.__init__" (defArgs st_System_init) (defBody st_System_init) (defScope st_System_init) [(.int 1000003)] [] (He.fAd K d_System_init.at_) fd) :
    FnG prg w K mg base CX0 4 (He.fAd K d_System_init.at_) fd (N_System_init.take 4) (spOf K mg 4 fn_System_init) := by
  obtain ⟨fd_check_system, F_check_system⟩ := W.c.def_ 4 (d := d_check_system) rfl
  have G_check_system := ok_check_system (w := w) W F_check_system
  have g_check_system := W.glo 16 (x := "check_system") rfl
  have B_check_system := FunD.bindsN (ps := N_check_system.take 3) F_check_system (fun _ _ _ _ _ _ us hl => match us, hl with | [_, _, _], _ => rfl)
  have g_System := W.glo 17 (x := "System") rfl
  have c_System := W.cls 18 (x := "System") rfl
  have n_System_dimension_count := W.noat 19 (x := "System") (f := "dimension_count") rfl
  have n_System_kept_modulus := W.noat 20 (x := "System") (f := "kept_modulus") rfl
  have n_System_kept_tables := W.noat 21 (x := "System") (f := "kept_tables") rfl
  have b_sorted := W.free 22 (x := "sorted") rfl
  have b_tuple := W.free 23 (x := "tuple") rfl
  have n_System_named_reads := W.noat 24 (x := "System") (f := "named_reads") rfl
  have b_range := W.free 3 (x := "range") rfl
  have b_len := W.free 4 (x := "len") rfl
  refine fn_ok0L (ms := ms_System_init) (at_ := d_System_init.at_) F sc_System_init fun A outer s H E hr => ?_
  unfold ms_System_init
  exact (rs_cons (rs_expr (re_fz 9 (re_call G_check_system (hr.mono (by decide)) rfl g_check_system F_check_system.kp B_check_system .nil (fun _ _ _ => rfl) pass_any (ra_cons (re_var 1) (ra_cons (re_var 2) (ra_cons (re_var 3) ra_nil))))))
    (rs_cons (rs_fld g_System c_System n_System_dimension_count (re_var 0) (re_var 1))
    (rs_cons (rs_fld g_System c_System n_System_kept_modulus (re_var 0) (re_var 3))
    (rs_cons (rs_fld g_System c_System n_System_kept_tables (re_var 0) re_dnew)
    (rs_cons (rs_for PassesOwn.never rfl (ri_any (re_sortK0 rfl b_sorted (re_var 2) hr (W.tb ("System", some "__init__") (List.mem_of_getElem? (i := 0) (by rfl))) rfl (List.mem_of_getElem? (i := 0) (by rfl)) (tab_uniq (i := 0) rfl) rfl (by intro y hy e; exact absurd e ((by decide +kernel : ∀ y ∈ [(("table" : Str), NameKind.local)], y.2 ≠ NameKind.free) y hy)) rfl rfl rfl (by intro y hy; exact (by decide +kernel : ∀ y ∈ [(("table" : Str), NameKind.local)], y.2 ≠ NameKind.cell) y hy) rfl (by decide) (fun _ _ _ _ _ _ => rfl))) (rg_tp rfl (rgs_cons (rg_nm sc_System_init.nd) (rgs_cons (rg_nm sc_System_init.nd) (rgs_cons (rg_nm sc_System_init.nd) rgs_nil)))) (rs_one (rs_dput hr (re_fld g_System c_System n_System_kept_tables (re_var 0)) (re_var 4) (re_tup (ra_cons (re_var 5) (ra_cons (re_cty cb_tuple rfl b_tuple (by rfl) (ra_cons (re_var 6) ra_nil)) ra_nil))))))
    (rs_fzF (i := 0) (cn := "System") (f := "kept_tables") (n := 9) (rs_one (rs_fld g_System c_System n_System_named_reads (re_var 0) (re_cty cb_tuple rfl b_tuple (by rfl) (ra_cons (re_comp2 (own := [("name", 4), ("constant", 5), ("reads", 6), ("number", 7)]) (vs1 := [7]) rfl sc_System_init.nd (ri_items (re_fld g_System c_System n_System_kept_tables (re_var 0))) (blkOk_by (own := [("name", 4), ("constant", 5), ("reads", 6), ("number", 7)]) (by kernel_rfl)) (fun _ _ _ _ _ => (rg_tp rfl (rgs_cons (rg_nm sc_System_init.nd) (rgs_cons (rg_tp rfl (rgs_cons (rg_nm sc_System_init.nd) (rgs_cons (rg_nm sc_System_init.nd) rgs_nil))) rgs_nil)))) (fun _ _ _ _ _ => rts_nil) (fun _ _ _ _ _ => (ri_range1 rfl b_range (ra_cons (re_cb cb_len rfl b_len (by rfl) (ra_cons (re_var 6) ra_nil)) ra_nil))) (fun _ _ _ _ _ => (rg_nm sc_System_init.nd)) (fun _ _ _ _ _ => rts_nil) (fun _ _ _ _ _ => (re_tup (ra_cons (re_var 4) (ra_cons (re_var 7) ra_nil))))) ra_nil))))))))))
theorem sc__law_mixed : FnScope N__law_mixed (N__law_mixed.take 2) (defScope st__law_mixed) := ⟨rfl, rfl, rfl, by decide +kernel, rfl, by decide +kernel, by decide +kernel⟩
theorem ok__law_mixed {w : World} {K : PySem.W.Frag} {mg : Str → Option Value} {base : Heap} (W : Wd facts defs gets errs K mg base) {fd : FuncData} (F : FunD K "_law_mixed" "_law_mixed" (defArgs st__law_mixed) (defBody st__law_mixed) (defScope st__law_mixed) [] [] (He.fAd K d__law_mixed.at_) fd) :
    FnG prg w K mg base CX0 2 (He.fAd K d__law_mixed.at_) fd (N__law_mixed.take 2) (spOf K mg 2 fn__law_mixed) := by
  have b_list := W.free 26 (x := "list") rfl
  obtain ⟨fd__law_draw, F__law_draw⟩ := W.c.def_ 2 (d := d__law_draw) rfl
  have G__law_draw := ok__law_draw (w := w) W F__law_draw
  have g__law_draw := W.glo 6 (x := "_law_draw") rfl
  have b_len := W.free 4 (x := "len") rfl
  have B__law_draw := FunD.bindsN (ps := N__law_draw.take 2) F__law_draw (fun _ _ _ _ _ _ us hl => match us, hl with | [_, _], _ => rfl)
  refine fn_ok0 (ms := ms__law_mixed) F sc__law_mixed fun cdv A outer s H E hr => ?_
  unfold ms__law_mixed
  exact (rs_cons (rs_par (i := 2) (j := 3) rfl sc__law_mixed.nd (ra_cons (re_cty cb_listR rfl b_list (by rfl) (ra_cons (re_var 1) ra_nil)) (ra_cons (re_lstR ra_nil) ra_nil)))
    (rs_cons (rs_while PassesOwn.never (rt_cmp (op_ne_any hr) (re_var 2) (re_lst ra_nil) (by rfl)) (rs_one (rs_expr (re_bm PySem.F.plainAttrs_list PySem.F.slot_list_append PySem.F.type_list_append mt_append_e isLst_ty (re_var 3) (ra_cons (re_bm PySem.F.plainAttrs_list PySem.F.slot_list_pop PySem.F.type_list_pop mt_pop_e isLst_ty (re_var 2) (ra_cons (re_fz 9 (re_call G__law_draw (hr.mono (by decide)) rfl g__law_draw F__law_draw.kp B__law_draw .nil (fun _ _ _ => rfl) pass_any (ra_cons (re_var 0) (ra_cons (re_cb cb_len rfl b_len (by rfl) (ra_cons (re_var 2) ra_nil)) ra_nil)))) ra_nil)) ra_nil)))))
    (rs_one (rs_ret (re_var 3)))))
theorem sc__law_vector : FnScope N__law_vector (N__law_vector.take 3) (defScope st__law_vector) := ⟨rfl, rfl, rfl, by decide +kernel, rfl, by decide +kernel, by decide +kernel⟩
theorem ok__law_vector {w : World} {K : PySem.W.Frag} {mg : Str → Option Value} {base : Heap} (W : Wd facts defs gets errs K mg base) {fd : FuncData} (F : FunD K "_law_vector" "_law_vector" (defArgs st__law_vector) (defBody st__law_vector) (defScope st__law_vector) [] [] (He.fAd K d__law_vector.at_) fd) :
    FnG prg w K mg base CX0 2 (He.fAd K d__law_vector.at_) fd (N__law_vector.take 3) (spOf K mg 3 fn__law_vector) := by
  have b_range := W.free 3 (x := "range") rfl
  obtain ⟨fd__law_draw, F__law_draw⟩ := W.c.def_ 2 (d := d__law_draw) rfl
  have G__law_draw := ok__law_draw (w := w) W F__law_draw
  have g__law_draw := W.glo 6 (x := "_law_draw") rfl
  have B__law_draw := FunD.bindsN (ps := N__law_draw.take 2) F__law_draw (fun _ _ _ _ _ _ us hl => match us, hl with | [_, _], _ => rfl)
  have b_tuple := W.free 23 (x := "tuple") rfl
  refine fn_ok0 (ms := ms__law_vector) F sc__law_vector fun cdv A outer s H E hr => ?_
  unfold ms__law_vector
  exact (rs_cons (rs_set (i := 3) sc__law_vector.nd (re_lstR ra_nil))
    (rs_cons (rs_for PassesOwn.never rfl (ri_range1 rfl b_range (ra_cons (re_var 1) ra_nil)) (rg_nm sc__law_vector.nd) (rs_one (rs_expr (re_bm PySem.F.plainAttrs_list PySem.F.slot_list_append PySem.F.type_list_append mt_append_e isLst_ty (re_var 3) (ra_cons (re_sub (ix_any hr) (re_lst (ra_cons re_int (ra_cons re_int (ra_cons (re_fz 9 (re_call G__law_draw (hr.mono (by decide)) rfl g__law_draw F__law_draw.kp B__law_draw .nil (fun _ _ _ => rfl) pass_any (ra_cons (re_var 0) (ra_cons (re_op op_add_any (re_var 2) re_int) ra_nil)))) (ra_cons (re_op op_sub_int re_int (re_fz 9 (re_call G__law_draw (hr.mono (by decide)) rfl g__law_draw F__law_draw.kp B__law_draw .nil (fun _ _ _ => rfl) pass_any (ra_cons (re_var 0) (ra_cons (re_op op_add_any (re_var 2) re_int) ra_nil))))) ra_nil))))) (re_fz 9 (re_call G__law_draw (hr.mono (by decide)) rfl g__law_draw F__law_draw.kp B__law_draw .nil (fun _ _ _ => rfl) pass_any (ra_cons (re_var 0) (ra_cons re_int ra_nil)))) (fun _ _ => rfl)) ra_nil)))))
    (rs_one (rs_ret (re_cty cb_tuple rfl b_tuple (by rfl) (ra_cons (re_var 3) ra_nil))))))
theorem sc__law_made_rows : FnScope N__law_made_rows (N__law_made_rows.take 5) (defScope st__law_made_rows) := ⟨rfl, rfl, rfl, by decide +kernel, rfl, by decide +kernel, by decide +kernel⟩
theorem ok__law_made_rows {w : World} {K : PySem.W.Frag} {mg : Str → Option Value} {base : Heap} (W : Wd facts defs gets errs K mg base) {fd : FuncData} (F : FunD K "_law_made_rows" "_law_made_rows" (defArgs st__law_made_rows) (defBody st__law_made_rows) (defScope st__law_made_rows) [] [] (He.fAd K d__law_made_rows.at_) fd) :
    FnG prg w K mg base CX0 3 (He.fAd K d__law_made_rows.at_) fd (N__law_made_rows.take 5) (spOf K mg 5 fn__law_made_rows) := by
  obtain ⟨fd__law_mixed, F__law_mixed⟩ := W.c.def_ 8 (d := d__law_mixed) rfl
  have G__law_mixed := ok__law_mixed (w := w) W F__law_mixed
  have g__law_mixed := W.glo 27 (x := "_law_mixed") rfl
  have B__law_mixed := FunD.bindsN (ps := N__law_mixed.take 2) F__law_mixed (fun _ _ _ _ _ _ us hl => match us, hl with | [_, _], _ => rfl)
  obtain ⟨fd__law_draw, F__law_draw⟩ := W.c.def_ 2 (d := d__law_draw) rfl
  have G__law_draw := ok__law_draw (w := w) W F__law_draw
  have g__law_draw := W.glo 6 (x := "_law_draw") rfl
  have B__law_draw := FunD.bindsN (ps := N__law_draw.take 2) F__law_draw (fun _ _ _ _ _ _ us hl => match us, hl with | [_, _], _ => rfl)
  have b_range := W.free 3 (x := "range") rfl
  obtain ⟨fd__law_vector, F__law_vector⟩ := W.c.def_ 9 (d := d__law_vector) rfl
  have G__law_vector := ok__law_vector (w := w) W F__law_vector
  have g__law_vector := W.glo 28 (x := "_law_vector") rfl
  have B__law_vector := FunD.bindsN (ps := N__law_vector.take 3) F__law_vector (fun _ _ _ _ _ _ us hl => match us, hl with | [_, _, _], _ => rfl)
  refine fn_ok0 (ms := ms__law_made_rows) F sc__law_made_rows fun cdv A outer s H E hr => ?_
  unfold ms__law_made_rows
  exact (rs_cons (rs_set (i := 5) sc__law_made_rows.nd (re_slice sl_any (re_fz 9 (re_call G__law_mixed (hr.mono (by decide)) rfl g__law_mixed F__law_mixed.kp B__law_mixed .nil (fun _ _ _ => rfl) pass_any (ra_cons (re_var 0) (ra_cons (re_lst (ra_cons re_str (ra_cons re_str (ra_cons re_str (ra_cons re_str (ra_cons re_str (ra_cons re_str ra_nil))))))) ra_nil)))) ro_no (ro_some (re_var 2))))
    (rs_cons (rs_if (rt_cmp (op_eq_any hr) (re_fz 9 (re_call G__law_draw (hr.mono (by decide)) rfl g__law_draw F__law_draw.kp B__law_draw .nil (fun _ _ _ => rfl) pass_any (ra_cons (re_var 0) (ra_cons re_int ra_nil)))) re_int (by rfl)) (rs_one (rs_setComp (own := [("_law_word", 8)]) rfl sc__law_made_rows.nd (sw_true rfl rfl rfl rfl) (ri_any (re_var 5)) (blkOk_by (own := [("_law_word", 8)]) (by kernel_rfl)) (fun _ _ _ _ _ => (rg_nm sc__law_made_rows.nd)) (fun _ _ _ _ _ => rts_nil) (fun _ _ _ _ _ => (re_op op_add_any re_str (re_slice sl_any (re_var 8) ro_no (ro_some re_int)))))) rs_nil)
    (rs_cons (rs_setComp (own := [("_law_word", 8)]) rfl sc__law_made_rows.nd (sw_true rfl rfl rfl rfl) (ri_any (re_var 5)) (blkOk_by (own := [("_law_word", 8)]) (by kernel_rfl)) (fun _ _ _ _ _ => (rg_nm sc__law_made_rows.nd)) (fun _ _ _ _ _ => rts_nil) (fun _ _ _ _ _ => (re_tup (ra_cons (re_var 8) (ra_cons (re_op op_sub_int (re_fz 9 (re_call G__law_draw (hr.mono (by decide)) rfl g__law_draw F__law_draw.kp B__law_draw .nil (fun _ _ _ => rfl) pass_any (ra_cons (re_var 0) (ra_cons re_int ra_nil)))) re_int) (ra_cons (re_lstR ra_nil) ra_nil))))))
    (rs_cons (rs_for PassesOwn.never rfl (ri_range1 rfl b_range (ra_cons (re_fz 9 (re_call G__law_draw (hr.mono (by decide)) rfl g__law_draw F__law_draw.kp B__law_draw .nil (fun _ _ _ => rfl) pass_any (ra_cons (re_var 0) (ra_cons (re_op op_add_any (re_var 3) re_int) ra_nil)))) ra_nil)) (rg_nm sc__law_made_rows.nd) (rs_cons (rs_asg (re_sub (ix_any hr) (re_var 6) (re_fz 9 (re_call G__law_draw (hr.mono (by decide)) rfl g__law_draw F__law_draw.kp B__law_draw .nil (fun _ _ _ => rfl) pass_any (ra_cons (re_var 0) (ra_cons (re_var 2) ra_nil)))) (fun _ _ => rfl)) (rg_tp rfl (rgs_cons (rg_nm sc__law_made_rows.nd) (rgs_cons (rg_nm sc__law_made_rows.nd) (rgs_cons (rg_nm sc__law_made_rows.nd) rgs_nil)))))
    (rs_cons (rs_set (i := 11) sc__law_made_rows.nd (re_sub (ix_any hr) (re_lst (ra_cons re_int (ra_cons (re_un un_neg_int re_int) (ra_cons (re_op op_add_any re_int (re_fz 9 (re_call G__law_draw (hr.mono (by decide)) rfl g__law_draw F__law_draw.kp B__law_draw .nil (fun _ _ _ => rfl) pass_any (ra_cons (re_var 0) (ra_cons re_int ra_nil))))) (ra_cons (re_op op_sub_int (re_op op_sub_int re_int re_int) (re_fz 9 (re_call G__law_draw (hr.mono (by decide)) rfl g__law_draw F__law_draw.kp B__law_draw .nil (fun _ _ _ => rfl) pass_any (ra_cons (re_var 0) (ra_cons re_int ra_nil))))) ra_nil))))) (re_fz 9 (re_call G__law_draw (hr.mono (by decide)) rfl g__law_draw F__law_draw.kp B__law_draw .nil (fun _ _ _ => rfl) pass_any (ra_cons (re_var 0) (ra_cons re_int ra_nil)))) (fun _ _ => rfl)))
    (rs_one (rs_expr (re_bm PySem.F.plainAttrs_list PySem.F.slot_list_append PySem.F.type_list_append mt_append_e isLst_ty (re_var 10) (ra_cons (re_tup (ra_cons (re_sub (ix_any hr) (re_var 5) (re_fz 9 (re_call G__law_draw (hr.mono (by decide)) rfl g__law_draw F__law_draw.kp B__law_draw .nil (fun _ _ _ => rfl) pass_any (ra_cons (re_var 0) (ra_cons (re_var 2) ra_nil)))) (fun _ _ => rfl)) (ra_cons (re_fz 9 (re_call G__law_vector (hr.mono (by decide)) rfl g__law_vector F__law_vector.kp B__law_vector .nil (fun _ _ _ => rfl) pass_any (ra_cons (re_var 0) (ra_cons (re_var 1) (ra_cons (re_var 4) ra_nil))))) (ra_cons (re_var 11) ra_nil)))) ra_nil)))))))
    (rs_one (rs_ret (re_var 6)))))))
theorem sc_System_names : FnScope N_System_names (N_System_names.take 1) (defScope st_System_names) := ⟨rfl, rfl, rfl, by decide +kernel, rfl, by decide +kernel, by decide +kernel⟩
theorem ok_System_names {w : World} {K : PySem.W.Frag} {mg : Str → Option Value} {base : Heap} (W : Wd facts defs gets errs K mg base) {fd : FuncData} (F : FunD K "names" "System.names" (defArgs st_System_names) (defBody st_System_names) (defScope st_System_names) [] [] (geA K "System" "names") fd) :
    FnG prg w K mg base CX0 1 (geA K "System" "names") fd (N_System_names.take 1) (spOf K mg 1 fn_System_names) := by
  have g_System := W.glo 17 (x := "System") rfl
  have c_System := W.cls 18 (x := "System") rfl
  have n_System_kept_tables := W.noat 21 (x := "System") (f := "kept_tables") rfl
  have b_list := W.free 26 (x := "list") rfl
  refine fn_ok0 (ms := ms_System_names) F sc_System_names fun cdv A outer s H E hr => ?_
  unfold ms_System_names
  exact (rs_one (rs_ret (re_cty (cb_listD rfl) rfl b_list (by rfl) (ra_cons (re_fld g_System c_System n_System_kept_tables (re_var 0)) ra_nil))))
theorem sc_check_table : FnScope N_check_table (N_check_table.take 2) (defScope st_check_table) := ⟨rfl, rfl, rfl, by decide +kernel, rfl, by decide +kernel, by decide +kernel⟩
theorem ok_check_table {w : World} {K : PySem.W.Frag} {mg : Str → Option Value} {base : Heap} (W : Wd facts defs gets errs K mg base) {fd : FuncData} (F : FunD K "check_table" "check_table" (defArgs st_check_table) (defBody st_check_table) (defScope st_check_table) [] [] (He.fAd K d_check_table.at_) fd) :
    FnG prg w K mg base (L2N.CX prg w) 3 (He.fAd K d_check_table.at_) fd (N_check_table.take 2) (spOf K mg 2 fn_check_table) := by
  have g_System := W.glo 17 (x := "System") rfl
  have c_System := W.cls 18 (x := "System") rfl
  have n_System_kept_tables := W.noat 21 (x := "System") (f := "kept_tables") rfl
  have XE := W.err 0 (d := er) erS rfl
  refine fn_okX (ms := ms_check_table) F sc_check_table fun cdv A outer s H E hr => ?_
  unfold ms_check_table
  exact (rs_one (rs_if (rt_cmp (op_notin_any hr) (re_var 1) (re_fld g_System c_System n_System_kept_tables (re_var 0)) (by rfl)) (rs_one (rs_raise XE (by decide) (L2N.takes_of rfl rfl rfl rfl) (hr.mono (by decide)) rfl (re_var 1))) rs_nil))
theorem sc_System_reads : FnScope N_System_reads (N_System_reads.take 2) (defScope st_System_reads) := ⟨rfl, rfl, rfl, by decide +kernel, rfl, by decide +kernel, by decide +kernel⟩
theorem ok_System_reads {w : World} {K : PySem.W.Frag} {mg : Str → Option Value} {base : Heap} (W : Wd facts defs gets errs K mg base) {fd : FuncData} (F : FunD K "reads" "System.reads" (defArgs st_System_reads) (defBody st_System_reads) (defScope st_System_reads) [] [] (He.fAd K d_System_reads.at_) fd) :
    FnG prg w K mg base (L2N.CX prg w) 4 (He.fAd K d_System_reads.at_) fd (N_System_reads.take 2) (spOf K mg 2 fn_System_reads) := by
  obtain ⟨fd_check_table, F_check_table⟩ := W.c.def_ 12 (d := d_check_table) rfl
  have G_check_table := ok_check_table (w := w) W F_check_table
  have g_check_table := W.glo 30 (x := "check_table") rfl
  have B_check_table := FunD.bindsN (ps := N_check_table.take 2) F_check_table (fun _ _ _ _ _ _ us hl => match us, hl with | [_, _], _ => rfl)
  have g_System := W.glo 17 (x := "System") rfl
  have c_System := W.cls 18 (x := "System") rfl
  have n_System_kept_tables := W.noat 21 (x := "System") (f := "kept_tables") rfl
  have b_list := W.free 26 (x := "list") rfl
  refine fn_okX (ms := ms_System_reads) F sc_System_reads fun cdv A outer s H E hr => ?_
  unfold ms_System_reads
  exact (rs_cons (rs_expr (re_fz 9 (re_callW G_check_table (L2N.takes_of rfl rfl rfl rfl) (hr.mono (by decide)) rfl g_check_table F_check_table.kp B_check_table .nil (fun _ _ _ => rfl) (ra_cons (re_var 0) (ra_cons (re_var 1) ra_nil)))))
    (rs_one (rs_ret (re_cty cb_list rfl b_list (by rfl) (ra_cons (re_sub (ix_any hr) (re_sub (ix_any hr) (re_fld g_System c_System n_System_kept_tables (re_var 0)) (re_var 1) (fun _ _ => rfl)) re_int (fun _ _ => rfl)) ra_nil)))))
theorem sc_System_constant : FnScope N_System_constant (N_System_constant.take 2) (defScope st_System_constant) := ⟨rfl, rfl, rfl, by decide +kernel, rfl, by decide +kernel, by decide +kernel⟩
theorem ok_System_constant {w : World} {K : PySem.W.Frag} {mg : Str → Option Value} {base : Heap} (W : Wd facts defs gets errs K mg base) {fd : FuncData} (F : FunD K "constant" "System.constant" (defArgs st_System_constant) (defBody st_System_constant) (defScope st_System_constant) [] [] (He.fAd K d_System_constant.at_) fd) :
    FnG prg w K mg base (L2N.CX prg w) 4 (He.fAd K d_System_constant.at_) fd (N_System_constant.take 2) (spOf K mg 2 fn_System_constant) := by
  obtain ⟨fd_check_table, F_check_table⟩ := W.c.def_ 12 (d := d_check_table) rfl
  have G_check_table := ok_check_table (w := w) W F_check_table
  have g_check_table := W.glo 30 (x := "check_table") rfl
  have B_check_table := FunD.bindsN (ps := N_check_table.take 2) F_check_table (fun _ _ _ _ _ _ us hl => match us, hl with | [_, _], _ => rfl)
  have g_System := W.glo 17 (x := "System") rfl
  have c_System := W.cls 18 (x := "System") rfl
  have n_System_kept_tables := W.noat 21 (x := "System") (f := "kept_tables") rfl
  refine fn_okX (ms := ms_System_constant) F sc_System_constant fun cdv A outer s H E hr => ?_
  unfold ms_System_constant
  exact (rs_cons (rs_expr (re_fz 9 (re_callW G_check_table (L2N.takes_of rfl rfl rfl rfl) (hr.mono (by decide)) rfl g_check_table F_check_table.kp B_check_table .nil (fun _ _ _ => rfl) (ra_cons (re_var 0) (ra_cons (re_var 1) ra_nil)))))
    (rs_one (rs_ret (re_sub (ix_any hr) (re_sub (ix_any hr) (re_fld g_System c_System n_System_kept_tables (re_var 0)) (re_var 1) (fun _ _ => rfl)) re_int (fun _ _ => rfl)))))
theorem sc_System_dlen : FnScope N_System_dlen (N_System_dlen.take 1) (defScope st_System_dlen) := ⟨rfl, rfl, rfl, by decide +kernel, rfl, by decide +kernel, by decide +kernel⟩
theorem ok_System_dlen {w : World} {K : PySem.W.Frag} {mg : Str → Option Value} {base : Heap} (W : Wd facts defs gets errs K mg base) {fd : FuncData} (F : FunD K "__len__" "System.__len__" (defArgs st_System_dlen) (defBody st_System_dlen) (defScope st_System_dlen) [] [] (He.fAd K d_System_dlen.at_) fd) :
    FnG prg w K mg base CX0 1 (He.fAd K d_System_dlen.at_) fd (N_System_dlen.take 1) (spOf K mg 1 fn_System_dlen) := by
  have g_System := W.glo 17 (x := "System") rfl
  have c_System := W.cls 18 (x := "System") rfl
  have n_System_kept_tables := W.noat 21 (x := "System") (f := "kept_tables") rfl
  have b_len := W.free 4 (x := "len") rfl
  refine fn_ok0 (ms := ms_System_dlen) F sc_System_dlen fun cdv A outer s H E hr => ?_
  unfold ms_System_dlen
  exact (rs_one (rs_ret (re_cb cb_len rfl b_len (by rfl) (ra_cons (re_fld g_System c_System n_System_kept_tables (re_var 0)) ra_nil))))
theorem sc_System_all_reads : FnScope N_System_all_reads (N_System_all_reads.take 1) (defScope st_System_all_reads) := ⟨rfl, rfl, rfl, by decide +kernel, rfl, by decide +kernel, by decide +kernel⟩
theorem ok_System_all_reads {w : World} {K : PySem.W.Frag} {mg : Str → Option Value} {base : Heap} (W : Wd facts defs gets errs K mg base) {fd : FuncData} (F : FunD K "all_reads" "System.all_reads" (defArgs st_System_all_reads) (defBody st_System_all_reads) (defScope st_System_all_reads) [] [] (He.fAd K d_System_all_reads.at_) fd) :
    FnG prg w K mg base CX0 1 (He.fAd K d_System_all_reads.at_) fd (N_System_all_reads.take 1) (spOf K mg 1 fn_System_all_reads) := by
  have g_System := W.glo 17 (x := "System") rfl
  have c_System := W.cls 18 (x := "System") rfl
  have n_System_named_reads := W.noat 24 (x := "System") (f := "named_reads") rfl
  have b_list := W.free 26 (x := "list") rfl
  refine fn_ok0 (ms := ms_System_all_reads) F sc_System_all_reads fun cdv A outer s H E hr => ?_
  unfold ms_System_all_reads
  exact (rs_one (rs_ret (re_cty cb_list rfl b_list (by rfl) (ra_cons (re_fld g_System c_System n_System_named_reads (re_var 0)) ra_nil))))
theorem sc_System_modulus : FnScope N_System_modulus (N_System_modulus.take 1) (defScope st_System_modulus) := ⟨rfl, rfl, rfl, by decide +kernel, rfl, by decide +kernel, by decide +kernel⟩
theorem ok_System_modulus {w : World} {K : PySem.W.Frag} {mg : Str → Option Value} {base : Heap} (W : Wd facts defs gets errs K mg base) {fd : FuncData} (F : FunD K "modulus" "System.modulus" (defArgs st_System_modulus) (defBody st_System_modulus) (defScope st_System_modulus) [] [] (geA K "System" "modulus") fd) :
    FnG prg w K mg base CX0 1 (geA K "System" "modulus") fd (N_System_modulus.take 1) (spOf K mg 1 fn_System_modulus) := by
  have g_System := W.glo 17 (x := "System") rfl
  have c_System := W.cls 18 (x := "System") rfl
  have n_System_kept_modulus := W.noat 20 (x := "System") (f := "kept_modulus") rfl
  refine fn_ok0 (ms := ms_System_modulus) F sc_System_modulus fun cdv A outer s H E hr => ?_
  unfold ms_System_modulus
  exact (rs_one (rs_ret (re_fld g_System c_System n_System_kept_modulus (re_var 0))))
theorem sc_System_dimensions : FnScope N_System_dimensions (N_System_dimensions.take 1) (defScope st_System_dimensions) := ⟨rfl, rfl, rfl, by decide +kernel, rfl, by decide +kernel, by decide +kernel⟩
theorem ok_System_dimensions {w : World} {K : PySem.W.Frag} {mg : Str → Option Value} {base : Heap} (W : Wd facts defs gets errs K mg base) {fd : FuncData} (F : FunD K "dimensions" "System.dimensions" (defArgs st_System_dimensions) (defBody st_System_dimensions) (defScope st_System_dimensions) [] [] (geA K "System" "dimensions") fd) :
    FnG prg w K mg base CX0 1 (geA K "System" "dimensions") fd (N_System_dimensions.take 1) (spOf K mg 1 fn_System_dimensions) := by
  have g_System := W.glo 17 (x := "System") rfl
  have c_System := W.cls 18 (x := "System") rfl
  have n_System_dimension_count := W.noat 19 (x := "System") (f := "dimension_count") rfl
  refine fn_ok0 (ms := ms_System_dimensions) F sc_System_dimensions fun cdv A outer s H E hr => ?_
  unfold ms_System_dimensions
  exact (rs_one (rs_ret (re_fld g_System c_System n_System_dimension_count (re_var 0))))
theorem sc__law_shown : FnScope N__law_shown (N__law_shown.take 1) (defScope st__law_shown) := ⟨rfl, rfl, rfl, by decide +kernel, rfl, by decide +kernel, by decide +kernel⟩
theorem ok__law_shown {w : World} {K : PySem.W.Frag} {mg : Str → Option Value} {base : Heap} (W : Wd facts defs gets errs K mg base) {fd : FuncData} (F : FunD K "_law_shown" "_law_shown" (defArgs st__law_shown) (defBody st__law_shown) (defScope st__law_shown) [] [] (He.fAd K d__law_shown.at_) fd) :
    FnG prg w K mg base CX0 5 (He.fAd K d__law_shown.at_) fd (N__law_shown.take 1) (spOf K mg 1 fn__law_shown) := by
  obtain ⟨fd_System_names, F_System_names⟩ := (W.get 0 (d := p_System_names) rfl).2
  have G_System_names := ok_System_names (w := w) W F_System_names
  have B_System_names := FunD.bindsN (ps := N_System_names.take 1) F_System_names (fun _ _ _ _ _ _ us hl => match us, hl with | [_], _ => rfl)
  have g_System := W.glo 17 (x := "System") rfl
  have c_System := W.cls 18 (x := "System") rfl
  have P_System_names := (W.get 0 (d := p_System_names) rfl).1
  obtain ⟨fd_System_reads, F_System_reads⟩ := W.c.def_ 11 (d := d_System_reads) rfl
  have G_System_reads := ok_System_reads (w := w) W F_System_reads
  have B_System_reads := FunD.bindsN (ps := N_System_reads.take 2) F_System_reads (fun _ _ _ _ _ _ us hl => match us, hl with | [_, _], _ => rfl)
  have M_System_reads := W.meth 31 (x := "System") (f := "reads") rfl
  obtain ⟨fd_System_constant, F_System_constant⟩ := W.c.def_ 13 (d := d_System_constant) rfl
  have G_System_constant := ok_System_constant (w := w) W F_System_constant
  have B_System_constant := FunD.bindsN (ps := N_System_constant.take 2) F_System_constant (fun _ _ _ _ _ _ us hl => match us, hl with | [_, _], _ => rfl)
  have M_System_constant := W.meth 32 (x := "System") (f := "constant") rfl
  obtain ⟨fd_System_dlen, F_System_dlen⟩ := W.c.def_ 14 (d := d_System_dlen) rfl
  have G_System_dlen := ok_System_dlen (w := w) W F_System_dlen
  have B_System_dlen := FunD.bindsN (ps := N_System_dlen.take 1) F_System_dlen (fun _ _ _ _ _ _ us hl => match us, hl with | [_], _ => rfl)
  have b_len := W.free 4 (x := "len") rfl
  have M_System_dlen := W.meth 33 (x := "System") (f := "__len__") rfl
  obtain ⟨fd_System_all_reads, F_System_all_reads⟩ := W.c.def_ 15 (d := d_System_all_reads) rfl
  have G_System_all_reads := ok_System_all_reads (w := w) W F_System_all_reads
  have B_System_all_reads := FunD.bindsN (ps := N_System_all_reads.take 1) F_System_all_reads (fun _ _ _ _ _ _ us hl => match us, hl with | [_], _ => rfl)
  have M_System_all_reads := W.meth 34 (x := "System") (f := "all_reads") rfl
  obtain ⟨fd_System_modulus, F_System_modulus⟩ := (W.get 1 (d := p_System_modulus) rfl).2
  have G_System_modulus := ok_System_modulus (w := w) W F_System_modulus
  have B_System_modulus := FunD.bindsN (ps := N_System_modulus.take 1) F_System_modulus (fun _ _ _ _ _ _ us hl => match us, hl with | [_], _ => rfl)
  have P_System_modulus := (W.get 1 (d := p_System_modulus) rfl).1
  obtain ⟨fd_System_dimensions, F_System_dimensions⟩ := (W.get 2 (d := p_System_dimensions) rfl).2
  have G_System_dimensions := ok_System_dimensions (w := w) W F_System_dimensions
  have B_System_dimensions := FunD.bindsN (ps := N_System_dimensions.take 1) F_System_dimensions (fun _ _ _ _ _ _ us hl => match us, hl with | [_], _ => rfl)
  have P_System_dimensions := (W.get 2 (d := p_System_dimensions) rfl).1
  have b_repr := W.free 35 (x := "repr") rfl
  refine fn_ok0 (ms := ms__law_shown) F sc__law_shown fun cdv A outer s H E hr => ?_
  unfold ms__law_shown
  exact (rs_cons (rs_setComp (own := [("_law_word", 2)]) rfl sc__law_shown.nd (sw_true rfl rfl rfl rfl) (ri_any (re_fz 9 (re_prop g_System c_System (re_var 0) P_System_names G_System_names (hr.mono (by decide)) B_System_names .nil (fun _ _ _ => rfl) pass_any))) (blkOk_by (own := [("_law_word", 2)]) (by kernel_rfl)) (fun _ _ _ _ _ => (rg_nm sc__law_shown.nd)) (fun _ _ _ _ _ => rts_nil) (fun _ _ _ _ _ => (re_tup (ra_cons (re_var 2) (ra_cons (re_nox (re_fz 9 (re_meth g_System (re_var 0) c_System M_System_constant G_System_constant (hr.mono (by decide)) B_System_constant .nil (fun _ _ _ => rfl) pass_noX (ra_cons (re_var 2) ra_nil)))) (ra_cons (re_nox (re_fz 9 (re_meth g_System (re_var 0) c_System M_System_reads G_System_reads (hr.mono (by decide)) B_System_reads .nil (fun _ _ _ => rfl) pass_noX (ra_cons (re_var 2) ra_nil)))) ra_nil))))))
    (rs_one (rs_ret (re_cb (cb_repr hr) rfl b_repr (by rfl) (ra_cons (re_lst (ra_cons (re_fz 9 (re_prop g_System c_System (re_var 0) P_System_dimensions G_System_dimensions (hr.mono (by decide)) B_System_dimensions .nil (fun _ _ _ => rfl) pass_any)) (ra_cons (re_fz 9 (re_prop g_System c_System (re_var 0) P_System_modulus G_System_modulus (hr.mono (by decide)) B_System_modulus .nil (fun _ _ _ => rfl) pass_any)) (ra_cons (re_var 1) (ra_cons (re_fz 9 (re_meth0 g_System (re_var 0) c_System M_System_all_reads G_System_all_reads (hr.mono (by decide)) B_System_all_reads .nil (fun _ _ _ => rfl) pass_any)) (ra_cons (re_cb (cb_lenO g_System M_System_dlen G_System_dlen (hr.mono (by decide)) B_System_dlen) rfl b_len (by rfl) (ra_cons (re_var 0) ra_nil)) ra_nil)))))) ra_nil)))))
theorem sc_check_read : FnScope N_check_read (N_check_read.take 2) (defScope st_check_read) := ⟨rfl, rfl, rfl, by decide +kernel, rfl, by decide +kernel, by decide +kernel⟩
theorem ok_check_read {w : World} {K : PySem.W.Frag} {mg : Str → Option Value} {base : Heap} (W : Wd facts defs gets errs K mg base) {fd : FuncData} (F : FunD K "check_read" "check_read" (defArgs st_check_read) (defBody st_check_read) (defScope st_check_read) [] [] (He.fAd K d_check_read.at_) fd) :
    FnG prg w K mg base (L2N.CX prg w) 3 (He.fAd K d_check_read.at_) fd (N_check_read.take 2) (spOf K mg 2 fn_check_read) := by
  have g_System := W.glo 17 (x := "System") rfl
  have c_System := W.cls 18 (x := "System") rfl
  have n_System_named_reads := W.noat 24 (x := "System") (f := "named_reads") rfl
  have XE := W.err 0 (d := er) erS rfl
  refine fn_okX (ms := ms_check_read) F sc_check_read fun cdv A outer s H E hr => ?_
  unfold ms_check_read
  exact (rs_one (rs_if (rt_cmp (op_notin_any hr) (re_var 1) (re_fld g_System c_System n_System_named_reads (re_var 0)) (by rfl)) (rs_one (rs_raise XE (by decide) (L2N.takes_of rfl rfl rfl rfl) (hr.mono (by decide)) rfl (re_var 1))) rs_nil))
theorem sc_table_list : FnScope N_table_list (N_table_list.take 1) (defScope st_table_list) := ⟨rfl, rfl, rfl, by decide +kernel, rfl, by decide +kernel, by decide +kernel⟩
theorem ok_table_list {w : World} {K : PySem.W.Frag} {mg : Str → Option Value} {base : Heap} (W : Wd facts defs gets errs K mg base) {fd : FuncData} (F : FunD K "table_list" "table_list" (defArgs st_table_list) (defBody st_table_list) (defScope st_table_list) [] [] (He.fAd K d_table_list.at_) fd) :
    FnG prg w K mg base CX0 1 (He.fAd K d_table_list.at_) fd (N_table_list.take 1) (spOf K mg 1 fn_table_list) := by
  have g_System := W.glo 17 (x := "System") rfl
  have c_System := W.cls 18 (x := "System") rfl
  have n_System_kept_tables := W.noat 21 (x := "System") (f := "kept_tables") rfl
  have b_list := W.free 26 (x := "list") rfl
  refine fn_ok0 (ms := ms_table_list) F sc_table_list fun cdv A outer s H E hr => ?_
  unfold ms_table_list
  exact (rs_one (rs_ret (re_comp (own := [("name", 1), ("constant", 2), ("reads", 3)]) rfl sc_table_list.nd (ri_items (re_fld g_System c_System n_System_kept_tables (re_var 0))) (blkOk_by (own := [("name", 1), ("constant", 2), ("reads", 3)]) (by kernel_rfl)) (fun _ _ _ _ _ => (rg_tp rfl (rgs_cons (rg_nm sc_table_list.nd) (rgs_cons (rg_tp rfl (rgs_cons (rg_nm sc_table_list.nd) (rgs_cons (rg_nm sc_table_list.nd) rgs_nil))) rgs_nil)))) (fun _ _ _ _ _ => rts_nil) (fun _ _ _ _ _ => (re_tup (ra_cons (re_var 1) (ra_cons (re_var 2) (ra_cons (re_cty cb_list rfl b_list (by rfl) (ra_cons (re_var 3) ra_nil)) ra_nil))))))))
theorem sc_System_without : FnScope N_System_without (N_System_without.take 2) (defScope st_System_without) := ⟨rfl, rfl, rfl, by decide +kernel, rfl, by decide +kernel, by decide +kernel⟩
theorem ok_System_without {w : World} {K : PySem.W.Frag} {mg : Str → Option Value} {base : Heap} (W : Wd facts defs gets errs K mg base) {fd : FuncData} (F : FunD K "without" "System.without" (defArgs st_System_without) (defBody st_System_without) (defScope st_System_without) [] [] (He.fAd K d_System_without.at_) fd) :
    FnG prg w K mg base (L2N.CX prg w) 6 (He.fAd K d_System_without.at_) fd (N_System_without.take 2) (spOf K mg 2 fn_System_without) := by
  obtain ⟨fd_check_read, F_check_read⟩ := W.c.def_ 19 (d := d_check_read) rfl
  have G_check_read := ok_check_read (w := w) W F_check_read
  have g_check_read := W.glo 37 (x := "check_read") rfl
  have B_check_read := FunD.bindsN (ps := N_check_read.take 2) F_check_read (fun _ _ _ _ _ _ us hl => match us, hl with | [_, _], _ => rfl)
  obtain ⟨fd_table_list, F_table_list⟩ := W.c.def_ 20 (d := d_table_list) rfl
  have G_table_list := ok_table_list (w := w) W F_table_list
  have g_table_list := W.glo 38 (x := "table_list") rfl
  have B_table_list := FunD.bindsN (ps := N_table_list.take 1) F_table_list (fun _ _ _ _ _ _ us hl => match us, hl with | [_], _ => rfl)
  have b_enumerate := W.free 9 (x := "enumerate") rfl
  obtain ⟨fd_System_init, F_System_init⟩ := W.c.def_ 3 (d := d_System_init) rfl
  have G_System_init := ok_System_init (w := w) W F_System_init
  have g_System := W.glo 17 (x := "System") rfl
  have mk_System := W.mkr 25 (x := "System") rfl
  have c_System := W.cls 18 (x := "System") rfl
  have n_System_kept_modulus := W.noat 20 (x := "System") (f := "kept_modulus") rfl
  have n_System_dimension_count := W.noat 19 (x := "System") (f := "dimension_count") rfl
  obtain ⟨ds_B_System_init_4, dr_B_System_init_4, B_System_init_4⟩ := FunD.binds1 (ps := N_System_init.take 4) F_System_init 4 1 (by simp [d_System_init, He.DefD.dvs]) rfl (fun _ _ _ _ _ _ _ us its h1 h2 => match us, its, h1, h2 with | [_, _, _, _], [_], _, _ => ⟨_, rfl, rfl⟩)
  refine fn_okX (ms := ms_System_without) F sc_System_without fun cdv A outer s H E hr => ?_
  unfold ms_System_without
  exact (rs_cons (rs_for (passes_of rfl) rfl (ri_any (re_var 1)) (rg_nm sc_System_without.nd) (rs_one (rs_expr (re_fz 9 (re_callW G_check_read (L2N.takes_of rfl rfl rfl rfl) (hr.mono (by decide)) rfl g_check_read F_check_read.kp B_check_read .nil (fun _ _ _ => rfl) (ra_cons (re_var 0) (ra_cons (re_var 2) ra_nil)))))))
    (rs_cons (rs_set (i := 3) sc_System_without.nd (re_lstR ra_nil))
    (rs_cons (rs_for (passes_of rfl) rfl (ri_any (re_fz 9 (re_call G_table_list (hr.mono (by decide)) rfl g_table_list F_table_list.kp B_table_list .nil (fun _ _ _ => rfl) pass_any (ra_cons (re_var 0) ra_nil)))) (rg_tp rfl (rgs_cons (rg_nm sc_System_without.nd) (rgs_cons (rg_nm sc_System_without.nd) (rgs_cons (rg_nm sc_System_without.nd) rgs_nil)))) (rs_cons (rs_setComp (own := [("number", 8), ("read", 2)]) rfl sc_System_without.nd (sw_true rfl rfl rfl rfl) (ri_enum rfl b_enumerate (ra_cons (re_var 6) ra_nil)) (blkOk_by (own := [("number", 8), ("read", 2)]) (by kernel_rfl)) (fun _ _ _ _ _ => (rg_tp rfl (rgs_cons (rg_nm sc_System_without.nd) (rgs_cons (rg_nm sc_System_without.nd) rgs_nil)))) (fun _ _ _ _ _ => (rts_one (rt_cmp (op_notin_any hr) (re_tup (ra_cons (re_var 4) (ra_cons (re_var 8) ra_nil))) (re_var 1) (by rfl)))) (fun _ _ _ _ _ => (re_var 2)))
    (rs_one (rs_expr (re_bm PySem.F.plainAttrs_list PySem.F.slot_list_append PySem.F.type_list_append mt_append_e isLst_ty (re_var 3) (ra_cons (re_tup (ra_cons (re_var 4) (ra_cons (re_var 5) (ra_cons (re_var 7) ra_nil)))) ra_nil))))))
    (rs_fzV (i := 3) (rs_one (rs_ret (re_fz 9 (re_make mk_System g_System G_System_init (hr.mono (by decide)) rfl B_System_init_4 dr_B_System_init_4 (fun _ _ _ => rfl) pass_any (ra_cons (re_fld g_System c_System n_System_dimension_count (re_var 0)) (ra_cons (re_var 3) (ra_cons (re_fld g_System c_System n_System_kept_modulus (re_var 0)) ra_nil)))))))))))
theorem sc_System_beside : FnScope N_System_beside (N_System_beside.take 2) (defScope st_System_beside) := ⟨rfl, rfl, rfl, by decide +kernel, rfl, by decide +kernel, by decide +kernel⟩
theorem ok_System_beside {w : World} {K : PySem.W.Frag} {mg : Str → Option Value} {base : Heap} (W : Wd facts defs gets errs K mg base) {fd : FuncData} (F : FunD K "beside" "System.beside" (defArgs st_System_beside) (defBody st_System_beside) (defScope st_System_beside) [] [] (He.fAd K d_System_beside.at_) fd) :
    FnG prg w K mg base (L2N.CX prg w) 6 (He.fAd K d_System_beside.at_) fd (N_System_beside.take 2) (spOf K mg 2 fn_System_beside) := by
  have g_System := W.glo 17 (x := "System") rfl
  have c_System := W.cls 18 (x := "System") rfl
  have n_System_kept_tables := W.noat 21 (x := "System") (f := "kept_tables") rfl
  have XE := W.err 0 (d := er) erS rfl
  obtain ⟨fd_System_init, F_System_init⟩ := W.c.def_ 3 (d := d_System_init) rfl
  have G_System_init := ok_System_init (w := w) W F_System_init
  have mk_System := W.mkr 25 (x := "System") rfl
  have n_System_kept_modulus := W.noat 20 (x := "System") (f := "kept_modulus") rfl
  obtain ⟨fd_table_list, F_table_list⟩ := W.c.def_ 20 (d := d_table_list) rfl
  have G_table_list := ok_table_list (w := w) W F_table_list
  have g_table_list := W.glo 38 (x := "table_list") rfl
  have B_table_list := FunD.bindsN (ps := N_table_list.take 1) F_table_list (fun _ _ _ _ _ _ us hl => match us, hl with | [_], _ => rfl)
  have n_System_dimension_count := W.noat 19 (x := "System") (f := "dimension_count") rfl
  obtain ⟨ds_B_System_init_4, dr_B_System_init_4, B_System_init_4⟩ := FunD.binds1 (ps := N_System_init.take 4) F_System_init 4 1 (by simp [d_System_init, He.DefD.dvs]) rfl (fun _ _ _ _ _ _ _ us its h1 h2 => match us, its, h1, h2 with | [_, _, _, _], [_], _, _ => ⟨_, rfl, rfl⟩)
  refine fn_okX (ms := ms_System_beside) F sc_System_beside fun cdv A outer s H E hr => ?_
  unfold ms_System_beside
  exact (rs_cons (rs_for (passes_of rfl) rfl (ri_any (re_fld g_System c_System n_System_kept_tables (re_var 0))) (rg_nm sc_System_beside.nd) (rs_one (rs_if (rt_cmp (op_in_any hr) (re_var 2) (re_fld g_System c_System n_System_kept_tables (re_var 1)) (by rfl)) (rs_one (rs_raise XE (by decide) (L2N.takes_of rfl rfl rfl rfl) (hr.mono (by decide)) rfl (re_var 2))) rs_nil)))
    (rs_one (rs_ret (re_fz 9 (re_make mk_System g_System G_System_init (hr.mono (by decide)) rfl B_System_init_4 dr_B_System_init_4 (fun _ _ _ => rfl) pass_any (ra_cons (re_fld g_System c_System n_System_dimension_count (re_var 0)) (ra_cons (re_op op_add_any (re_fz 9 (re_call G_table_list (hr.mono (by decide)) rfl g_table_list F_table_list.kp B_table_list .nil (fun _ _ _ => rfl) pass_any (ra_cons (re_var 0) ra_nil))) (re_fz 9 (re_call G_table_list (hr.mono (by decide)) rfl g_table_list F_table_list.kp B_table_list .nil (fun _ _ _ => rfl) pass_any (ra_cons (re_var 1) ra_nil)))) (ra_cons (re_fld g_System c_System n_System_kept_modulus (re_var 0)) ra_nil))))))))
theorem sc_System_renamed : FnScope N_System_renamed (N_System_renamed.take 2) (defScope st_System_renamed) := ⟨rfl, rfl, rfl, by decide +kernel, rfl, by decide +kernel, by decide +kernel⟩
theorem ok_System_renamed {w : World} {K : PySem.W.Frag} {mg : Str → Option Value} {base : Heap} (W : Wd facts defs gets errs K mg base) {fd : FuncData} (F : FunD K "renamed" "System.renamed" (defArgs st_System_renamed) (defBody st_System_renamed) (defScope st_System_renamed) [] [] (He.fAd K d_System_renamed.at_) fd) :
    FnG prg w K mg base (L2N.CX prg w) 6 (He.fAd K d_System_renamed.at_) fd (N_System_renamed.take 2) (spOf K mg 2 fn_System_renamed) := by
  have b_sorted := W.free 22 (x := "sorted") rfl
  obtain ⟨fd_check_table, F_check_table⟩ := W.c.def_ 12 (d := d_check_table) rfl
  have G_check_table := ok_check_table (w := w) W F_check_table
  have g_check_table := W.glo 30 (x := "check_table") rfl
  have B_check_table := FunD.bindsN (ps := N_check_table.take 2) F_check_table (fun _ _ _ _ _ _ us hl => match us, hl with | [_, _], _ => rfl)
  have g_System := W.glo 17 (x := "System") rfl
  have c_System := W.cls 18 (x := "System") rfl
  have n_System_kept_tables := W.noat 21 (x := "System") (f := "kept_tables") rfl
  obtain ⟨fd_is_name, F_is_name⟩ := W.c.def_ 5 (d := d_is_name) rfl
  have G_is_name := ok_is_name (w := w) W F_is_name
  have g_is_name := W.glo 13 (x := "is_name") rfl
  have B_is_name := FunD.bindsN (ps := N_is_name.take 1) F_is_name (fun _ _ _ _ _ _ us hl => match us, hl with | [_], _ => rfl)
  have b_list := W.free 26 (x := "list") rfl
  have XE := W.err 0 (d := er) erS rfl
  obtain ⟨fd_table_list, F_table_list⟩ := W.c.def_ 20 (d := d_table_list) rfl
  have G_table_list := ok_table_list (w := w) W F_table_list
  have g_table_list := W.glo 38 (x := "table_list") rfl
  have B_table_list := FunD.bindsN (ps := N_table_list.take 1) F_table_list (fun _ _ _ _ _ _ us hl => match us, hl with | [_], _ => rfl)
  obtain ⟨fd_System_init, F_System_init⟩ := W.c.def_ 3 (d := d_System_init) rfl
  have G_System_init := ok_System_init (w := w) W F_System_init
  have mk_System := W.mkr 25 (x := "System") rfl
  have n_System_kept_modulus := W.noat 20 (x := "System") (f := "kept_modulus") rfl
  have n_System_dimension_count := W.noat 19 (x := "System") (f := "dimension_count") rfl
  obtain ⟨ds_B_System_init_4, dr_B_System_init_4, B_System_init_4⟩ := FunD.binds1 (ps := N_System_init.take 4) F_System_init 4 1 (by simp [d_System_init, He.DefD.dvs]) rfl (fun _ _ _ _ _ _ _ us its h1 h2 => match us, its, h1, h2 with | [_, _, _, _], [_], _, _ => ⟨_, rfl, rfl⟩)
  refine fn_okX (ms := ms_System_renamed) F sc_System_renamed fun cdv A outer s H E hr => ?_
  unfold ms_System_renamed
  exact (rs_cons (rs_for (passes_of rfl) rfl (ri_any (re_cb (cb_sortD rfl) rfl b_sorted (by rfl) (ra_cons (re_var 1) ra_nil))) (rg_nm sc_System_renamed.nd) (rs_one (rs_expr (re_fz 9 (re_callW G_check_table (L2N.takes_of rfl rfl rfl rfl) (hr.mono (by decide)) rfl g_check_table F_check_table.kp B_check_table .nil (fun _ _ _ => rfl) (ra_cons (re_var 0) (ra_cons (re_var 2) ra_nil)))))))
    (rs_cons (rs_set (i := 3) sc_System_renamed.nd (re_fz 9 (re_dcomp (own := [("old", 2)]) rfl sc_System_renamed.nd (ri_any (re_fld g_System c_System n_System_kept_tables (re_var 0))) (blkOk_by (own := [("old", 2)]) (by kernel_rfl)) (fun _ _ _ _ _ => (rg_nm sc_System_renamed.nd)) (fun _ _ _ _ _ => rts_nil) (fun _ _ _ _ _ => (re_var 2)) (fun _ _ _ _ _ => (re_dget2 hr (re_var 1) (re_var 2) (re_var 2))))))
    (rs_cons (rs_for (passes_of rfl) rfl (ri_any (re_cb (cb_sortD rfl) rfl b_sorted (by rfl) (ra_cons (re_var 1) ra_nil))) (rg_nm sc_System_renamed.nd) (rs_one (rs_if (PW.pt (rw_or (rt_not (rt_tru (re_fz 9 (re_call G_is_name (hr.mono (by decide)) rfl g_is_name F_is_name.kp B_is_name .nil (fun _ _ _ => rfl) pass_any (ra_cons (re_sub (ix_any hr) (re_var 1) (re_var 2) (fun _ _ => rfl)) ra_nil))))) (rw_or1 (rt_cmp op_gt_int (re_bm PySem.F.plainAttrs_list PySem.F.slot_list_count PySem.F.type_list_count mt_count_t isLst_ty (re_listVals rfl (re_var 3) rfl b_list) (ra_cons (re_sub (ix_any hr) (re_var 1) (re_var 2) (fun _ _ => rfl)) ra_nil)) re_int (by rfl))))) (rs_one (rs_raise XE (by decide) (L2N.takes_of rfl rfl rfl rfl) (hr.mono (by decide)) rfl (re_sub (ix_any hr) (re_var 1) (re_var 2) (fun _ _ => rfl)))) rs_nil)))
    (rs_cons (rs_set (i := 4) sc_System_renamed.nd (re_lstR ra_nil))
    (rs_cons (rs_for (passes_of rfl) rfl (ri_any (re_fz 9 (re_call G_table_list (hr.mono (by decide)) rfl g_table_list F_table_list.kp B_table_list .nil (fun _ _ _ => rfl) pass_any (ra_cons (re_var 0) ra_nil)))) (rg_tp rfl (rgs_cons (rg_nm sc_System_renamed.nd) (rgs_cons (rg_nm sc_System_renamed.nd) (rgs_cons (rg_nm sc_System_renamed.nd) rgs_nil)))) (rs_cons (rs_setComp (own := [("table", 9), ("vector", 10), ("factor", 11)]) rfl sc_System_renamed.nd (sw_true rfl rfl rfl rfl) (ri_any (re_var 7)) (blkOk_by (own := [("table", 9), ("vector", 10), ("factor", 11)]) (by kernel_rfl)) (fun _ _ _ _ _ => (rg_tp rfl (rgs_cons (rg_nm sc_System_renamed.nd) (rgs_cons (rg_nm sc_System_renamed.nd) (rgs_cons (rg_nm sc_System_renamed.nd) rgs_nil))))) (fun _ _ _ _ _ => rts_nil) (fun _ _ _ _ _ => (re_tup (ra_cons (re_sub (ix_any hr) (re_var 3) (re_var 9) (fun _ _ => rfl)) (ra_cons (re_var 10) (ra_cons (re_var 11) ra_nil))))))
    (rs_one (rs_expr (re_bm PySem.F.plainAttrs_list PySem.F.slot_list_append PySem.F.type_list_append mt_append_e isLst_ty (re_var 4) (ra_cons (re_tup (ra_cons (re_sub (ix_any hr) (re_var 3) (re_var 5) (fun _ _ => rfl)) (ra_cons (re_var 6) (ra_cons (re_var 8) ra_nil)))) ra_nil))))))
    (rs_fzV (i := 4) (rs_one (rs_ret (re_fz 9 (re_make mk_System g_System G_System_init (hr.mono (by decide)) rfl B_System_init_4 dr_B_System_init_4 (fun _ _ _ => rfl) pass_any (ra_cons (re_fld g_System c_System n_System_dimension_count (re_var 0)) (ra_cons (re_var 4) (ra_cons (re_fld g_System c_System n_System_kept_modulus (re_var 0)) ra_nil)))))))))))))
theorem sc_System_exchanged : FnScope N_System_exchanged (N_System_exchanged.take 2) (defScope st_System_exchanged) := ⟨rfl, rfl, rfl, by decide +kernel, rfl, by decide +kernel, by decide +kernel⟩
theorem ok_System_exchanged {w : World} {K : PySem.W.Frag} {mg : Str → Option Value} {base : Heap} (W : Wd facts defs gets errs K mg base) {fd : FuncData} (F : FunD K "exchanged" "System.exchanged" (defArgs st_System_exchanged) (defBody st_System_exchanged) (defScope st_System_exchanged) [] [] (He.fAd K d_System_exchanged.at_) fd) :
    FnG prg w K mg base (L2N.CX prg w) 6 (He.fAd K d_System_exchanged.at_) fd (N_System_exchanged.take 2) (spOf K mg 2 fn_System_exchanged) := by
  have b_sorted := W.free 22 (x := "sorted") rfl
  have b_list := W.free 26 (x := "list") rfl
  have b_range := W.free 3 (x := "range") rfl
  have g_System := W.glo 17 (x := "System") rfl
  have c_System := W.cls 18 (x := "System") rfl
  have n_System_dimension_count := W.noat 19 (x := "System") (f := "dimension_count") rfl
  have XE := W.err 0 (d := er) erS rfl
  obtain ⟨fd_table_list, F_table_list⟩ := W.c.def_ 20 (d := d_table_list) rfl
  have G_table_list := ok_table_list (w := w) W F_table_list
  have g_table_list := W.glo 38 (x := "table_list") rfl
  have B_table_list := FunD.bindsN (ps := N_table_list.take 1) F_table_list (fun _ _ _ _ _ _ us hl => match us, hl with | [_], _ => rfl)
  have b_tuple := W.free 23 (x := "tuple") rfl
  obtain ⟨fd_System_init, F_System_init⟩ := W.c.def_ 3 (d := d_System_init) rfl
  have G_System_init := ok_System_init (w := w) W F_System_init
  have mk_System := W.mkr 25 (x := "System") rfl
  have n_System_kept_modulus := W.noat 20 (x := "System") (f := "kept_modulus") rfl
  obtain ⟨ds_B_System_init_4, dr_B_System_init_4, B_System_init_4⟩ := FunD.binds1 (ps := N_System_init.take 4) F_System_init 4 1 (by simp [d_System_init, He.DefD.dvs]) rfl (fun _ _ _ _ _ _ _ us its h1 h2 => match us, its, h1, h2 with | [_, _, _, _], [_], _, _ => ⟨_, rfl, rfl⟩)
  refine fn_okX (ms := ms_System_exchanged) F sc_System_exchanged fun cdv A outer s H E hr => ?_
  unfold ms_System_exchanged
  exact (rs_cons (rs_if (rt_cmp (op_ne_any hr) (re_cb (cb_sortU hr) rfl b_sorted (by rfl) (ra_cons (re_var 1) ra_nil)) (re_listRg rfl rfl b_list rfl b_range (re_fld g_System c_System n_System_dimension_count (re_var 0))) (by rfl)) (rs_one (rs_raise XE (by decide) (L2N.takes_of rfl rfl rfl rfl) (hr.mono (by decide)) rfl (re_var 1))) rs_nil)
    (rs_cons (rs_set (i := 2) sc_System_exchanged.nd (re_lstR ra_nil))
    (rs_cons (rs_for (passes_of rfl) rfl (ri_any (re_fz 9 (re_call G_table_list (hr.mono (by decide)) rfl g_table_list F_table_list.kp B_table_list .nil (fun _ _ _ => rfl) pass_any (ra_cons (re_var 0) ra_nil)))) (rg_tp rfl (rgs_cons (rg_nm sc_System_exchanged.nd) (rgs_cons (rg_nm sc_System_exchanged.nd) (rgs_cons (rg_nm sc_System_exchanged.nd) rgs_nil)))) (rs_cons (rs_setComp (own := [("table", 7), ("vector", 8), ("factor", 9)]) rfl sc_System_exchanged.nd (sw_true rfl rfl rfl rfl) (ri_any (re_var 5)) (blkOk_by (own := [("table", 7), ("vector", 8), ("factor", 9)]) (by kernel_rfl)) (fun _ _ _ _ _ => (rg_tp rfl (rgs_cons (rg_nm sc_System_exchanged.nd) (rgs_cons (rg_nm sc_System_exchanged.nd) (rgs_cons (rg_nm sc_System_exchanged.nd) rgs_nil))))) (fun _ _ _ _ _ => rts_nil) (fun _ _ _ _ _ => (re_tup (ra_cons (re_var 7) (ra_cons (re_cty cb_tuple rfl b_tuple (by rfl) (ra_cons (re_comp (own := [("axis", 10)]) rfl sc_System_exchanged.nd (ri_any (re_var 1)) (blkOk_by (own := [("axis", 10)]) (by kernel_rfl)) (fun _ _ _ _ _ => (rg_nm sc_System_exchanged.nd)) (fun _ _ _ _ _ => rts_nil) (fun _ _ _ _ _ => (re_sub (ix_any hr) (re_var 8) (re_var 10) (fun _ _ => rfl)))) ra_nil)) (ra_cons (re_var 9) ra_nil))))))
    (rs_one (rs_expr (re_bm PySem.F.plainAttrs_list PySem.F.slot_list_append PySem.F.type_list_append mt_append_e isLst_ty (re_var 2) (ra_cons (re_tup (ra_cons (re_var 3) (ra_cons (re_var 4) (ra_cons (re_var 6) ra_nil)))) ra_nil))))))
    (rs_fzV (i := 2) (rs_one (rs_ret (re_fz 9 (re_make mk_System g_System G_System_init (hr.mono (by decide)) rfl B_System_init_4 dr_B_System_init_4 (fun _ _ _ => rfl) pass_any (ra_cons (re_fld g_System c_System n_System_dimension_count (re_var 0)) (ra_cons (re_var 2) (ra_cons (re_fld g_System c_System n_System_kept_modulus (re_var 0)) ra_nil)))))))))))
theorem sc__law_caught : FnScope N__law_caught (N__law_caught.take 1) (defScope st__law_caught) := ⟨rfl, rfl, rfl, by decide +kernel, rfl, by decide +kernel, by decide +kernel⟩
theorem ok__law_caught {w : World} {K : PySem.W.Frag} {mg : Str → Option Value} {base : Heap} (W : Wd facts defs gets errs K mg base) {fd : FuncData} (F : FunD K "_law_caught" "_law_caught" (defArgs st__law_caught) (defBody st__law_caught) (defScope st__law_caught) [] [] (He.fAd K d__law_caught.at_) fd) :
    FnGH prg w K mg base 1 (He.fAd K d__law_caught.at_) fd (N__law_caught.take 1) (fun a => spOf K mg 1 (fn__law_caught a)) := by
  have XE := W.err 0 (d := er) erS rfl
  have g_InvalidSystem := W.glo 43 (x := "InvalidSystem") rfl
  have b_isinstance := W.free 44 (x := "isinstance") rfl
  have g_InvalidNumber := W.glo 45 (x := "InvalidNumber") rfl
  have g_InvalidAxes := W.glo 46 (x := "InvalidAxes") rfl
  have g_InvalidName := W.glo 47 (x := "InvalidName") rfl
  have g_InvalidCell := W.glo 48 (x := "InvalidCell") rfl
  have g_UnknownTable := W.glo 49 (x := "UnknownTable") rfl
  have g_InvalidShifts := W.glo 50 (x := "InvalidShifts") rfl
  have g_InvalidRead := W.glo 51 (x := "InvalidRead") rfl
  have g_NoFar := W.glo 52 (x := "NoFar") rfl
  have g_NotReady := W.glo 53 (x := "NotReady") rfl
  have g_Unreadable := W.glo 54 (x := "Unreadable") rfl
  have g_NothingToUndo := W.glo 55 (x := "NothingToUndo") rfl
  have b_len := W.free 4 (x := "len") rfl
  have b_ValueError := W.free 56 (x := "ValueError") rfl
  refine fn_okH (ms := ms__law_caught) F sc__law_caught fun cd A fr s H a => ?_
  unfold ms__law_caught
  exact (rs_cons (rs_set (i := 1) sc__law_caught.nd (re_lst (ra_cons (re_tup (ra_cons re_str (ra_cons (re_cb (cb_isE XE) rfl b_isinstance (by rfl) (ra_cons (re_as (re_var 0)) (ra_cons (re_glo (y := .glo "InvalidNumber") (v := .ref (He.ga K "InvalidNumber")) rfl g_InvalidNumber rfl (fun _ _ _ => ⟨_, g_InvalidNumber, rfl⟩)) ra_nil))) ra_nil))) (ra_cons (re_tup (ra_cons re_str (ra_cons (re_cb (cb_isE XE) rfl b_isinstance (by rfl) (ra_cons (re_as (re_var 0)) (ra_cons (re_glo (y := .glo "InvalidSystem") (v := .ref (He.ga K "InvalidSystem")) rfl g_InvalidSystem rfl (fun _ _ _ => ⟨_, g_InvalidSystem, rfl⟩)) ra_nil))) ra_nil))) ra_nil))))
    (rs_cons (rs_set (i := 1) sc__law_caught.nd (re_op op_add_any (re_var 1) (re_lst (ra_cons (re_tup (ra_cons re_str (ra_cons (re_cb (cb_isE XE) rfl b_isinstance (by rfl) (ra_cons (re_as (re_var 0)) (ra_cons (re_glo (y := .glo "InvalidName") (v := .ref (He.ga K "InvalidName")) rfl g_InvalidName rfl (fun _ _ _ => ⟨_, g_InvalidName, rfl⟩)) ra_nil))) ra_nil))) (ra_cons (re_tup (ra_cons re_str (ra_cons (re_cb (cb_isE XE) rfl b_isinstance (by rfl) (ra_cons (re_as (re_var 0)) (ra_cons (re_glo (y := .glo "InvalidAxes") (v := .ref (He.ga K "InvalidAxes")) rfl g_InvalidAxes rfl (fun _ _ _ => ⟨_, g_InvalidAxes, rfl⟩)) ra_nil))) ra_nil))) ra_nil)))))
    (rs_cons (rs_set (i := 1) sc__law_caught.nd (re_op op_add_any (re_var 1) (re_lst (ra_cons (re_tup (ra_cons re_str (ra_cons (re_cb (cb_isE XE) rfl b_isinstance (by rfl) (ra_cons (re_as (re_var 0)) (ra_cons (re_glo (y := .glo "UnknownTable") (v := .ref (He.ga K "UnknownTable")) rfl g_UnknownTable rfl (fun _ _ _ => ⟨_, g_UnknownTable, rfl⟩)) ra_nil))) ra_nil))) (ra_cons (re_tup (ra_cons re_str (ra_cons (re_cb (cb_isE XE) rfl b_isinstance (by rfl) (ra_cons (re_as (re_var 0)) (ra_cons (re_glo (y := .glo "InvalidCell") (v := .ref (He.ga K "InvalidCell")) rfl g_InvalidCell rfl (fun _ _ _ => ⟨_, g_InvalidCell, rfl⟩)) ra_nil))) ra_nil))) ra_nil)))))
    (rs_cons (rs_set (i := 1) sc__law_caught.nd (re_op op_add_any (re_var 1) (re_lst (ra_cons (re_tup (ra_cons re_str (ra_cons (re_cb (cb_isE XE) rfl b_isinstance (by rfl) (ra_cons (re_as (re_var 0)) (ra_cons (re_glo (y := .glo "InvalidRead") (v := .ref (He.ga K "InvalidRead")) rfl g_InvalidRead rfl (fun _ _ _ => ⟨_, g_InvalidRead, rfl⟩)) ra_nil))) ra_nil))) (ra_cons (re_tup (ra_cons re_str (ra_cons (re_cb (cb_isE XE) rfl b_isinstance (by rfl) (ra_cons (re_as (re_var 0)) (ra_cons (re_glo (y := .glo "InvalidShifts") (v := .ref (He.ga K "InvalidShifts")) rfl g_InvalidShifts rfl (fun _ _ _ => ⟨_, g_InvalidShifts, rfl⟩)) ra_nil))) ra_nil))) ra_nil)))))
    (rs_cons (rs_set (i := 1) sc__law_caught.nd (re_op op_add_any (re_var 1) (re_lst (ra_cons (re_tup (ra_cons re_str (ra_cons (re_cb (cb_isE XE) rfl b_isinstance (by rfl) (ra_cons (re_as (re_var 0)) (ra_cons (re_glo (y := .glo "NotReady") (v := .ref (He.ga K "NotReady")) rfl g_NotReady rfl (fun _ _ _ => ⟨_, g_NotReady, rfl⟩)) ra_nil))) ra_nil))) (ra_cons (re_tup (ra_cons re_str (ra_cons (re_cb (cb_isE XE) rfl b_isinstance (by rfl) (ra_cons (re_as (re_var 0)) (ra_cons (re_glo (y := .glo "NoFar") (v := .ref (He.ga K "NoFar")) rfl g_NoFar rfl (fun _ _ _ => ⟨_, g_NoFar, rfl⟩)) ra_nil))) ra_nil))) ra_nil)))))
    (rs_cons (rs_set (i := 1) sc__law_caught.nd (re_op op_add_any (re_var 1) (re_lst (ra_cons (re_tup (ra_cons re_str (ra_cons (re_cb (cb_isE XE) rfl b_isinstance (by rfl) (ra_cons (re_as (re_var 0)) (ra_cons (re_glo (y := .glo "NothingToUndo") (v := .ref (He.ga K "NothingToUndo")) rfl g_NothingToUndo rfl (fun _ _ _ => ⟨_, g_NothingToUndo, rfl⟩)) ra_nil))) ra_nil))) (ra_cons (re_tup (ra_cons re_str (ra_cons (re_cb (cb_isE XE) rfl b_isinstance (by rfl) (ra_cons (re_as (re_var 0)) (ra_cons (re_glo (y := .glo "Unreadable") (v := .ref (He.ga K "Unreadable")) rfl g_Unreadable rfl (fun _ _ _ => ⟨_, g_Unreadable, rfl⟩)) ra_nil))) ra_nil))) ra_nil)))))
    (rs_cons (rs_setCompH (own := [("_law_word", 3), ("_law_so", 4)]) rfl sc__law_caught.nd (sw_true rfl rfl rfl rfl) (re_var 1) (blkOk_by (own := [("_law_word", 3), ("_law_so", 4)]) (by kernel_rfl)) (fun _ _ _ _ _ => (rg_tpH rfl (rgs_cons (rg_nm sc__law_caught.nd) (rgs_cons (rg_nm sc__law_caught.nd) rgs_nil)))) (fun _ _ _ _ _ => (rts_one (rt_tru (re_var 4)))) (fun _ _ _ _ _ => (re_var 3)))
    (rs_one (rs_ret (re_ifE (PW.pt (rw_and (rt_cmp op_eqI (re_cb cb_len rfl b_len (by rfl) (ra_cons (re_var 2) ra_nil)) re_int (by rfl)) (rw_and1 (rt_tru (re_cb (cb_isE XE) rfl b_isinstance (by rfl) (ra_cons (re_as (re_var 0)) (ra_cons (re_bltn (y := .ty "ValueError") (v := .ty "ValueError") rfl b_ValueError (by rfl) rfl (fun _ _ _ => rfl)) ra_nil))))))) (re_tup (ra_cons (re_sub ix_lstH (re_var 2) re_int (fun _ _ => rfl)) (ra_cons (re_xval XE (re_as (re_var 0))) ra_nil))) re_str))))))))))
theorem sc__law_raised : FnScope N__law_raised (N__law_raised.take 3) (defScope st__law_raised) := ⟨rfl, rfl, rfl, by decide +kernel, rfl, by decide +kernel, by decide +kernel⟩
theorem ok__law_raised {w : World} {K : PySem.W.Frag} {mg : Str → Option Value} {base : Heap} (W : Wd facts defs gets errs K mg base) {fd : FuncData} (F : FunD K "_law_raised" "_law_raised" (defArgs st__law_raised) (defBody st__law_raised) (defScope st__law_raised) [] [] (He.fAd K d__law_raised.at_) fd) :
    FnG prg w K mg base CX0 7 (He.fAd K d__law_raised.at_) fd (N__law_raised.take 3) (spOf K mg 3 fn__law_raised) := by
  have XE := W.err 0 (d := er) erS rfl
  obtain ⟨fd_System_constant, F_System_constant⟩ := W.c.def_ 13 (d := d_System_constant) rfl
  have G_System_constant := ok_System_constant (w := w) W F_System_constant
  have B_System_constant := FunD.bindsN (ps := N_System_constant.take 2) F_System_constant (fun _ _ _ _ _ _ us hl => match us, hl with | [_, _], _ => rfl)
  have g_System := W.glo 17 (x := "System") rfl
  have c_System := W.cls 18 (x := "System") rfl
  have M_System_constant := W.meth 32 (x := "System") (f := "constant") rfl
  obtain ⟨fd_System_reads, F_System_reads⟩ := W.c.def_ 11 (d := d_System_reads) rfl
  have G_System_reads := ok_System_reads (w := w) W F_System_reads
  have B_System_reads := FunD.bindsN (ps := N_System_reads.take 2) F_System_reads (fun _ _ _ _ _ _ us hl => match us, hl with | [_, _], _ => rfl)
  have M_System_reads := W.meth 31 (x := "System") (f := "reads") rfl
  obtain ⟨fd_System_without, F_System_without⟩ := W.c.def_ 18 (d := d_System_without) rfl
  have G_System_without := ok_System_without (w := w) W F_System_without
  have B_System_without := FunD.bindsN (ps := N_System_without.take 2) F_System_without (fun _ _ _ _ _ _ us hl => match us, hl with | [_, _], _ => rfl)
  have M_System_without := W.meth 39 (x := "System") (f := "without") rfl
  obtain ⟨fd_System_beside, F_System_beside⟩ := W.c.def_ 21 (d := d_System_beside) rfl
  have G_System_beside := ok_System_beside (w := w) W F_System_beside
  have B_System_beside := FunD.bindsN (ps := N_System_beside.take 2) F_System_beside (fun _ _ _ _ _ _ us hl => match us, hl with | [_, _], _ => rfl)
  have M_System_beside := W.meth 40 (x := "System") (f := "beside") rfl
  obtain ⟨fd_System_renamed, F_System_renamed⟩ := W.c.def_ 22 (d := d_System_renamed) rfl
  have G_System_renamed := ok_System_renamed (w := w) W F_System_renamed
  have B_System_renamed := FunD.bindsN (ps := N_System_renamed.take 2) F_System_renamed (fun _ _ _ _ _ _ us hl => match us, hl with | [_, _], _ => rfl)
  have M_System_renamed := W.meth 41 (x := "System") (f := "renamed") rfl
  obtain ⟨fd_System_exchanged, F_System_exchanged⟩ := W.c.def_ 23 (d := d_System_exchanged) rfl
  have G_System_exchanged := ok_System_exchanged (w := w) W F_System_exchanged
  have B_System_exchanged := FunD.bindsN (ps := N_System_exchanged.take 2) F_System_exchanged (fun _ _ _ _ _ _ us hl => match us, hl with | [_, _], _ => rfl)
  have M_System_exchanged := W.meth 42 (x := "System") (f := "exchanged") rfl
  obtain ⟨fd__law_caught, F__law_caught⟩ := W.c.def_ 24 (d := d__law_caught) rfl
  have G__law_caught := ok__law_caught (w := w) W F__law_caught
  have B__law_caught := FunD.bindsN (ps := N__law_caught.take 1) F__law_caught (fun _ _ _ _ _ _ us hl => match us, hl with | [_], _ => rfl)
  have g__law_caught := W.glo 57 (x := "_law_caught") rfl
  refine fn_ok0 (ms := ms__law_raised) F sc__law_raised fun cdv A outer s H E hr => ?_
  unfold ms__law_raised
  exact (rs_cons (rs_tryH (i := 3) XE (by decide) sc__law_raised.nd rfl (fun W pn xe tkW _ => (rss_ifW (rt_cmp (op_eq_any hr) (re_var 0) re_int (by rfl)) (rss_exprW (re_methW g_System (re_var 1) c_System M_System_constant G_System_constant tkW (hr.mono (by decide)) B_System_constant .nil (fun _ _ _ => rfl) (ra_cons (re_var 2) ra_nil))) (rss_ifW (rt_cmp (op_eq_any hr) (re_var 0) re_int (by rfl)) (rss_exprW (re_methW g_System (re_var 1) c_System M_System_reads G_System_reads tkW (hr.mono (by decide)) B_System_reads .nil (fun _ _ _ => rfl) (ra_cons (re_var 2) ra_nil))) (rss_ifW (rt_cmp (op_eq_any hr) (re_var 0) re_int (by rfl)) (rss_exprW (re_methW g_System (re_var 1) c_System M_System_without G_System_without tkW (hr.mono (by decide)) B_System_without .nil (fun _ _ _ => rfl) (ra_cons (re_var 2) ra_nil))) (rss_ifW (rt_cmp (op_eq_any hr) (re_var 0) re_int (by rfl)) (rss_exprW (re_methW g_System (re_var 1) c_System M_System_beside G_System_beside tkW (hr.mono (by decide)) B_System_beside .nil (fun _ _ _ => rfl) (ra_cons (re_var 2) ra_nil))) (rss_ifW (rt_cmp (op_eq_any hr) (re_var 0) re_int (by rfl)) (rss_exprW (re_methW g_System (re_var 1) c_System M_System_renamed G_System_renamed tkW (hr.mono (by decide)) B_System_renamed .nil (fun _ _ _ => rfl) (ra_cons (re_var 2) ra_nil))) (rss_exprW (re_methW g_System (re_var 1) c_System M_System_exchanged G_System_exchanged tkW (hr.mono (by decide)) B_System_exchanged .nil (fun _ _ _ => rfl) (ra_cons (re_var 2) ra_nil))))))))) (fun a pn => (rs_one (rs_ret (re_callH G__law_caught rfl (roomH_suite (hr.mono (by decide)) _) rfl g__law_caught F__law_caught.kp B__law_caught (ra_cons (re_var 3) ra_nil))))))
    (rs_one (rs_ret re_str)))
theorem sc__law_reads_right : FnScope N__law_reads_right (N__law_reads_right.take 2) (defScope st__law_reads_right) := ⟨rfl, rfl, rfl, by decide +kernel, rfl, by decide +kernel, by decide +kernel⟩
theorem ok__law_reads_right {w : World} {K : PySem.W.Frag} {mg : Str → Option Value} {base : Heap} (W : Wd facts defs gets errs K mg base) {fd : FuncData} (F : FunD K "_law_reads_right" "_law_reads_right" (defArgs st__law_reads_right) (defBody st__law_reads_right) (defScope st__law_reads_right) [] [] (He.fAd K d__law_reads_right.at_) fd) :
    FnG prg w K mg base CX0 8 (He.fAd K d__law_reads_right.at_) fd (N__law_reads_right.take 2) (spOf K mg 2 fn__law_reads_right) := by
  obtain ⟨fd_System_names, F_System_names⟩ := (W.get 0 (d := p_System_names) rfl).2
  have G_System_names := ok_System_names (w := w) W F_System_names
  have B_System_names := FunD.bindsN (ps := N_System_names.take 1) F_System_names (fun _ _ _ _ _ _ us hl => match us, hl with | [_], _ => rfl)
  have g_System := W.glo 17 (x := "System") rfl
  have c_System := W.cls 18 (x := "System") rfl
  have P_System_names := (W.get 0 (d := p_System_names) rfl).1
  obtain ⟨fd_System_all_reads, F_System_all_reads⟩ := W.c.def_ 15 (d := d_System_all_reads) rfl
  have G_System_all_reads := ok_System_all_reads (w := w) W F_System_all_reads
  have B_System_all_reads := FunD.bindsN (ps := N_System_all_reads.take 1) F_System_all_reads (fun _ _ _ _ _ _ us hl => match us, hl with | [_], _ => rfl)
  have M_System_all_reads := W.meth 34 (x := "System") (f := "all_reads") rfl
  obtain ⟨fd__law_raised, F__law_raised⟩ := W.c.def_ 17 (d := d__law_raised) rfl
  have G__law_raised := ok__law_raised (w := w) W F__law_raised
  have g__law_raised := W.glo 58 (x := "_law_raised") rfl
  have B__law_raised := FunD.bindsN (ps := N__law_raised.take 3) F__law_raised (fun _ _ _ _ _ _ us hl => match us, hl with | [_, _, _], _ => rfl)
  obtain ⟨fd_System_reads, F_System_reads⟩ := W.c.def_ 11 (d := d_System_reads) rfl
  have G_System_reads := ok_System_reads (w := w) W F_System_reads
  have B_System_reads := FunD.bindsN (ps := N_System_reads.take 2) F_System_reads (fun _ _ _ _ _ _ us hl => match us, hl with | [_, _], _ => rfl)
  have M_System_reads := W.meth 31 (x := "System") (f := "reads") rfl
  have b_len := W.free 4 (x := "len") rfl
  obtain ⟨fd__law_mixed, F__law_mixed⟩ := W.c.def_ 8 (d := d__law_mixed) rfl
  have G__law_mixed := ok__law_mixed (w := w) W F__law_mixed
  have g__law_mixed := W.glo 27 (x := "_law_mixed") rfl
  obtain ⟨fd__law_draw, F__law_draw⟩ := W.c.def_ 2 (d := d__law_draw) rfl
  have G__law_draw := ok__law_draw (w := w) W F__law_draw
  have g__law_draw := W.glo 6 (x := "_law_draw") rfl
  have B__law_draw := FunD.bindsN (ps := N__law_draw.take 2) F__law_draw (fun _ _ _ _ _ _ us hl => match us, hl with | [_, _], _ => rfl)
  have B__law_mixed := FunD.bindsN (ps := N__law_mixed.take 2) F__law_mixed (fun _ _ _ _ _ _ us hl => match us, hl with | [_, _], _ => rfl)
  refine fn_ok0 (ms := ms__law_reads_right) F sc__law_reads_right fun cdv A outer s H E hr => ?_
  unfold ms__law_reads_right
  exact (rs_cons (rs_asg (re_tup (ra_cons (re_fz 9 (re_prop g_System c_System (re_var 1) P_System_names G_System_names (hr.mono (by decide)) B_System_names .nil (fun _ _ _ => rfl) pass_any)) (ra_cons (re_fz 9 (re_meth0 g_System (re_var 1) c_System M_System_all_reads G_System_all_reads (hr.mono (by decide)) B_System_all_reads .nil (fun _ _ _ => rfl) pass_any)) ra_nil))) (rg_tp rfl (rgs_cons (rg_nm sc__law_reads_right.nd) (rgs_cons (rg_nm sc__law_reads_right.nd) rgs_nil))))
    (rs_cons (rs_for PassesOwn.never rfl (ri_any (re_lst (ra_cons re_str (ra_cons re_str (ra_cons re_str (ra_cons (re_op op_add_any (re_sub (ix_any hr) (re_var 2) re_int (fun _ _ => rfl)) re_str) (ra_cons (re_sub (ix_any hr) (re_var 2) re_int (fun _ _ => rfl)) ra_nil))))))) (rg_nm sc__law_reads_right.nd) (rs_cons (rs_set (i := 8) sc__law_reads_right.nd (re_ifE (rt_cmp (op_in_any hr) (re_var 4) (re_var 2) (by rfl)) re_str (re_tup (ra_cons re_str (ra_cons (re_var 4) ra_nil)))))
    (rs_one (rs_if (rt_cmp (op_ne_any hr) (re_lst (ra_cons (re_fz 9 (re_call G__law_raised (hr.mono (by decide)) rfl g__law_raised F__law_raised.kp B__law_raised .nil (fun _ _ _ => rfl) pass_any (ra_cons re_int (ra_cons (re_var 1) (ra_cons (re_var 4) ra_nil))))) (ra_cons (re_fz 9 (re_call G__law_raised (hr.mono (by decide)) rfl g__law_raised F__law_raised.kp B__law_raised .nil (fun _ _ _ => rfl) pass_any (ra_cons re_int (ra_cons (re_var 1) (ra_cons (re_var 4) ra_nil))))) ra_nil))) (re_lst (ra_cons (re_var 8) (ra_cons (re_var 8) ra_nil))) (by rfl)) (rs_one (rs_ret re_bl)) rs_nil))))
    (rs_cons (rs_set (i := 5) sc__law_reads_right.nd (re_op op_add_any (re_lst (ra_cons (re_tup (ra_cons (re_sub (ix_any hr) (re_var 2) re_int (fun _ _ => rfl)) (ra_cons (re_cb cb_len rfl b_len (by rfl) (ra_cons (re_nox (re_fz 9 (re_meth g_System (re_var 1) c_System M_System_reads G_System_reads (hr.mono (by decide)) B_System_reads .nil (fun _ _ _ => rfl) pass_noX (ra_cons (re_sub (ix_any hr) (re_var 2) re_int (fun _ _ => rfl)) ra_nil)))) ra_nil)) ra_nil))) (ra_cons (re_tup (ra_cons re_str (ra_cons re_int ra_nil))) (ra_cons (re_tup (ra_cons (re_sub (ix_any hr) (re_var 2) (re_un un_neg_int re_int) (fun _ _ => rfl)) (ra_cons (re_un un_neg_int re_int) ra_nil))) (ra_cons (re_tup (ra_cons (re_sub (ix_any hr) (re_var 2) re_int (fun _ _ => rfl)) (ra_cons (re_op op_pow_int re_int re_int) ra_nil))) ra_nil))))) (re_slice sl_any (re_var 3) ro_no (ro_some re_int))))
    (rs_cons (rs_set (i := 6) sc__law_reads_right.nd (re_fz 9 (re_call G__law_mixed (hr.mono (by decide)) rfl g__law_mixed F__law_mixed.kp B__law_mixed .nil (fun _ _ _ => rfl) pass_any (ra_cons (re_var 0) (ra_cons (re_op op_add_any (re_slice sl_any (re_var 3) ro_no (ro_some re_int)) (re_slice sl_any (re_var 5) ro_no (ro_some (re_fz 9 (re_call G__law_draw (hr.mono (by decide)) rfl g__law_draw F__law_draw.kp B__law_draw .nil (fun _ _ _ => rfl) pass_any (ra_cons (re_var 0) (ra_cons re_int ra_nil))))))) ra_nil)))))
    (rs_cons (rs_setComp (own := [("_law_one", 9)]) rfl sc__law_reads_right.nd (sw_true rfl rfl rfl rfl) (ri_any (re_var 6)) (blkOk_by (own := [("_law_one", 9)]) (by kernel_rfl)) (fun _ _ _ _ _ => (rg_nm sc__law_reads_right.nd)) (fun _ _ _ _ _ => (rts_one (rt_cmp (op_notin_any hr) (re_var 9) (re_var 3) (by rfl)))) (fun _ _ _ _ _ => (re_var 9)))
    (rs_one (rs_ret (re_cmp (op_eq_any hr) (re_fz 9 (re_call G__law_raised (hr.mono (by decide)) rfl g__law_raised F__law_raised.kp B__law_raised .nil (fun _ _ _ => rfl) pass_any (ra_cons re_int (ra_cons (re_var 1) (ra_cons (re_var 6) ra_nil))))) (re_ifE (rt_cmp (op_ne_any hr) (re_var 7) (re_lst ra_nil) (by rfl)) (re_tup (ra_cons re_str (ra_cons (re_sub (ix_any hr) (re_var 7) re_int (fun _ _ => rfl)) ra_nil))) re_str) (by rfl)))))))))
theorem sc__law_beside_right : FnScope N__law_beside_right (N__law_beside_right.take 2) (defScope st__law_beside_right) := ⟨rfl, rfl, rfl, by decide +kernel, rfl, by decide +kernel, by decide +kernel⟩
theorem ok__law_beside_right {w : World} {K : PySem.W.Frag} {mg : Str → Option Value} {base : Heap} (W : Wd facts defs gets errs K mg base) {fd : FuncData} (F : FunD K "_law_beside_right" "_law_beside_right" (defArgs st__law_beside_right) (defBody st__law_beside_right) (defScope st__law_beside_right) [] [] (He.fAd K d__law_beside_right.at_) fd) :
    FnG prg w K mg base CX0 8 (He.fAd K d__law_beside_right.at_) fd (N__law_beside_right.take 2) (spOf K mg 2 fn__law_beside_right) := by
  obtain ⟨fd_System_names, F_System_names⟩ := (W.get 0 (d := p_System_names) rfl).2
  have G_System_names := ok_System_names (w := w) W F_System_names
  have B_System_names := FunD.bindsN (ps := N_System_names.take 1) F_System_names (fun _ _ _ _ _ _ us hl => match us, hl with | [_], _ => rfl)
  have g_System := W.glo 17 (x := "System") rfl
  have c_System := W.cls 18 (x := "System") rfl
  have P_System_names := (W.get 0 (d := p_System_names) rfl).1
  obtain ⟨fd__law_mixed, F__law_mixed⟩ := W.c.def_ 8 (d := d__law_mixed) rfl
  have G__law_mixed := ok__law_mixed (w := w) W F__law_mixed
  have g__law_mixed := W.glo 27 (x := "_law_mixed") rfl
  obtain ⟨fd__law_draw, F__law_draw⟩ := W.c.def_ 2 (d := d__law_draw) rfl
  have G__law_draw := ok__law_draw (w := w) W F__law_draw
  have g__law_draw := W.glo 6 (x := "_law_draw") rfl
  have B__law_draw := FunD.bindsN (ps := N__law_draw.take 2) F__law_draw (fun _ _ _ _ _ _ us hl => match us, hl with | [_, _], _ => rfl)
  have B__law_mixed := FunD.bindsN (ps := N__law_mixed.take 2) F__law_mixed (fun _ _ _ _ _ _ us hl => match us, hl with | [_, _], _ => rfl)
  obtain ⟨fd_System_init, F_System_init⟩ := W.c.def_ 3 (d := d_System_init) rfl
  have G_System_init := ok_System_init (w := w) W F_System_init
  have mk_System := W.mkr 25 (x := "System") rfl
  obtain ⟨fd_System_modulus, F_System_modulus⟩ := (W.get 1 (d := p_System_modulus) rfl).2
  have G_System_modulus := ok_System_modulus (w := w) W F_System_modulus
  have B_System_modulus := FunD.bindsN (ps := N_System_modulus.take 1) F_System_modulus (fun _ _ _ _ _ _ us hl => match us, hl with | [_], _ => rfl)
  have P_System_modulus := (W.get 1 (d := p_System_modulus) rfl).1
  obtain ⟨fd_System_dimensions, F_System_dimensions⟩ := (W.get 2 (d := p_System_dimensions) rfl).2
  have G_System_dimensions := ok_System_dimensions (w := w) W F_System_dimensions
  have B_System_dimensions := FunD.bindsN (ps := N_System_dimensions.take 1) F_System_dimensions (fun _ _ _ _ _ _ us hl => match us, hl with | [_], _ => rfl)
  have P_System_dimensions := (W.get 2 (d := p_System_dimensions) rfl).1
  obtain ⟨ds_B_System_init_4, dr_B_System_init_4, B_System_init_4⟩ := FunD.binds1 (ps := N_System_init.take 4) F_System_init 4 1 (by simp [d_System_init, He.DefD.dvs]) rfl (fun _ _ _ _ _ _ _ us its h1 h2 => match us, its, h1, h2 with | [_, _, _, _], [_], _, _ => ⟨_, rfl, rfl⟩)
  have b_sorted := W.free 22 (x := "sorted") rfl
  have b_len := W.free 4 (x := "len") rfl
  obtain ⟨fd__law_raised, F__law_raised⟩ := W.c.def_ 17 (d := d__law_raised) rfl
  have G__law_raised := ok__law_raised (w := w) W F__law_raised
  have g__law_raised := W.glo 58 (x := "_law_raised") rfl
  have B__law_raised := FunD.bindsN (ps := N__law_raised.take 3) F__law_raised (fun _ _ _ _ _ _ us hl => match us, hl with | [_, _, _], _ => rfl)
  refine fn_ok0 (ms := ms__law_beside_right) F sc__law_beside_right fun cdv A outer s H E hr => ?_
  unfold ms__law_beside_right
  exact (rs_cons (rs_asg (re_tup (ra_cons (re_lst (ra_cons re_str (ra_cons re_str (ra_cons re_str ra_nil)))) (ra_cons (re_fz 9 (re_prop g_System c_System (re_var 1) P_System_names G_System_names (hr.mono (by decide)) B_System_names .nil (fun _ _ _ => rfl) pass_any)) ra_nil))) (rg_tp rfl (rgs_cons (rg_nm sc__law_beside_right.nd) (rgs_cons (rg_nm sc__law_beside_right.nd) rgs_nil))))
    (rs_cons (rs_set (i := 4) sc__law_beside_right.nd (re_fz 9 (re_call G__law_mixed (hr.mono (by decide)) rfl g__law_mixed F__law_mixed.kp B__law_mixed .nil (fun _ _ _ => rfl) pass_any (ra_cons (re_var 0) (ra_cons (re_op op_add_any (re_slice sl_any (re_var 2) ro_no (ro_some (re_op op_add_any re_int (re_fz 9 (re_call G__law_draw (hr.mono (by decide)) rfl g__law_draw F__law_draw.kp B__law_draw .nil (fun _ _ _ => rfl) pass_any (ra_cons (re_var 0) (ra_cons re_int ra_nil))))))) (re_slice sl_any (re_fz 9 (re_call G__law_mixed (hr.mono (by decide)) rfl g__law_mixed F__law_mixed.kp B__law_mixed .nil (fun _ _ _ => rfl) pass_any (ra_cons (re_var 0) (ra_cons (re_var 3) ra_nil)))) ro_no (ro_some (re_fz 9 (re_call G__law_draw (hr.mono (by decide)) rfl g__law_draw F__law_draw.kp B__law_draw .nil (fun _ _ _ => rfl) pass_any (ra_cons (re_var 0) (ra_cons re_int ra_nil))))))) ra_nil)))))
    (rs_cons (rs_set (i := 5) sc__law_beside_right.nd (re_fz 9 (re_make mk_System g_System G_System_init (hr.mono (by decide)) rfl B_System_init_4 dr_B_System_init_4 (fun _ _ _ => rfl) pass_any (ra_cons (re_fz 9 (re_prop g_System c_System (re_var 1) P_System_dimensions G_System_dimensions (hr.mono (by decide)) B_System_dimensions .nil (fun _ _ _ => rfl) pass_any)) (ra_cons (re_comp (own := [("_law_word", 7)]) rfl sc__law_beside_right.nd (ri_any (re_var 4)) (blkOk_by (own := [("_law_word", 7)]) (by kernel_rfl)) (fun _ _ _ _ _ => (rg_nm sc__law_beside_right.nd)) (fun _ _ _ _ _ => rts_nil) (fun _ _ _ _ _ => (re_tup (ra_cons (re_var 7) (ra_cons re_int (ra_cons (re_lst ra_nil) ra_nil)))))) (ra_cons (re_fz 9 (re_prop g_System c_System (re_var 1) P_System_modulus G_System_modulus (hr.mono (by decide)) B_System_modulus .nil (fun _ _ _ => rfl) pass_any)) ra_nil))))))
    (rs_cons (rs_set (i := 6) sc__law_beside_right.nd (re_cb cb_sortS rfl b_sorted (by rfl) (ra_cons (re_comp (own := [("_law_word", 7)]) rfl sc__law_beside_right.nd (ri_any (re_var 4)) (blkOk_by (own := [("_law_word", 7)]) (by kernel_rfl)) (fun _ _ _ _ _ => (rg_nm sc__law_beside_right.nd)) (fun _ _ _ _ _ => (rts_one (rt_cmp (op_in_any hr) (re_var 7) (re_var 3) (by rfl)))) (fun _ _ _ _ _ => (re_var 7))) ra_nil)))
    (rs_cons (rs_if (rt_cmp op_gt_int (re_op op_add_any (re_cb cb_len rfl b_len (by rfl) (ra_cons (re_var 3) ra_nil)) (re_cb cb_len rfl b_len (by rfl) (ra_cons (re_var 4) ra_nil))) re_int (by rfl)) (rs_one (rs_ret re_bl)) rs_nil)
    (rs_one (rs_ret (re_cmp (op_eq_any hr) (re_fz 9 (re_call G__law_raised (hr.mono (by decide)) rfl g__law_raised F__law_raised.kp B__law_raised .nil (fun _ _ _ => rfl) pass_any (ra_cons re_int (ra_cons (re_var 1) (ra_cons (re_var 5) ra_nil))))) (re_ifE (rt_cmp (op_ne_any hr) (re_var 6) (re_lst ra_nil) (by rfl)) (re_tup (ra_cons re_str (ra_cons (re_sub (ix_any hr) (re_var 6) re_int (fun _ _ => rfl)) ra_nil))) re_str) (by rfl)))))))))
theorem sc__law_renamed_due : FnScope N__law_renamed_due (N__law_renamed_due.take 2) (defScope st__law_renamed_due) := ⟨rfl, rfl, rfl, by decide +kernel, rfl, by decide +kernel, by decide +kernel⟩
theorem ok__law_renamed_due {w : World} {K : PySem.W.Frag} {mg : Str → Option Value} {base : Heap} (W : Wd facts defs gets errs K mg base) {fd : FuncData} (F : FunD K "_law_renamed_due" "_law_renamed_due" (defArgs st__law_renamed_due) (defBody st__law_renamed_due) (defScope st__law_renamed_due) [] [] (He.fAd K d__law_renamed_due.at_) fd) :
    FnG prg w K mg base CX0 1 (He.fAd K d__law_renamed_due.at_) fd (N__law_renamed_due.take 2) (spOf K mg 2 fn__law_renamed_due) := by
  have b_sorted := W.free 22 (x := "sorted") rfl
  have b_len := W.free 4 (x := "len") rfl
  refine fn_ok0 (ms := ms__law_renamed_due) F sc__law_renamed_due fun cdv A outer s H E hr => ?_
  unfold ms__law_renamed_due
  exact (rs_cons (rs_for PassesOwn.never rfl (ri_any (re_cb (cb_sortD rfl) rfl b_sorted (by rfl) (ra_cons (re_var 1) ra_nil))) (rg_nm sc__law_renamed_due.nd) (rs_one (rs_if (rt_cmp (op_notin_any hr) (re_var 2) (re_var 0) (by rfl)) (rs_one (rs_ret (re_tup (ra_cons re_str (ra_cons (re_var 2) ra_nil))))) rs_nil)))
    (rs_cons (rs_setComp (own := [("_law_word", 6)]) rfl sc__law_renamed_due.nd (sw_true rfl rfl rfl rfl) (ri_any (re_var 0)) (blkOk_by (own := [("_law_word", 6)]) (by kernel_rfl)) (fun _ _ _ _ _ => (rg_nm sc__law_renamed_due.nd)) (fun _ _ _ _ _ => rts_nil) (fun _ _ _ _ _ => (re_dget2 hr (re_var 1) (re_var 6) (re_var 6))))
    (rs_cons (rs_for PassesOwn.never rfl (ri_any (re_cb (cb_sortD rfl) rfl b_sorted (by rfl) (ra_cons (re_var 1) ra_nil))) (rg_nm sc__law_renamed_due.nd) (rs_cons (rs_set (i := 4) sc__law_renamed_due.nd (re_sub (ix_any hr) (re_var 1) (re_var 2) (fun _ _ => rfl)))
    (rs_cons (rs_setComp (own := [("_law_sign", 7)]) rfl sc__law_renamed_due.nd (sw_true rfl rfl rfl rfl) (ri_any (re_var 4)) (blkOk_by (own := [("_law_sign", 7)]) (by kernel_rfl)) (fun _ _ _ _ _ => (rg_nm sc__law_renamed_due.nd)) (fun _ _ _ _ _ => (rts_one (rt_cmp (op_notin_any hr) (re_var 7) re_str (by rfl)))) (fun _ _ _ _ _ => (re_var 7)))
    (rs_one (rs_if (PW.pt (rw_or (rt_cmp (op_ne_any hr) (re_var 5) (re_lst ra_nil) (by rfl)) (rw_or (rt_not (rt_chain op_le_int op_le_int re_int (re_cb cb_len rfl b_len (by rfl) (ra_cons (re_var 4) ra_nil)) re_int)) (rw_or1 (rt_cmp op_gt_int (re_bm PySem.F.plainAttrs_list PySem.F.slot_list_count PySem.F.type_list_count mt_count_t isLst_ty (re_var 3) (ra_cons (re_var 4) ra_nil)) re_int (by rfl)))))) (rs_one (rs_ret (re_tup (ra_cons re_str (ra_cons (re_var 4) ra_nil))))) rs_nil)))))
    (rs_one (rs_ret re_str)))))
theorem sc_law : FnScope N_law (N_law.take 1) (defScope st_law) := ⟨rfl, rfl, rfl, by decide +kernel, rfl, by decide +kernel, by decide +kernel⟩
theorem ok_law {w : World} {K : PySem.W.Frag} {mg : Str → Option Value} {base : Heap} (W : Wd facts defs gets errs K mg base) {fd : FuncData} (F : FunD K "law" "law" (defArgs st_law) (defBody st_law) (defScope st_law) [] [] (He.fAd K d_law.at_) fd) :
    FnG prg w K mg base CX0 9 (He.fAd K d_law.at_) fd (N_law.take 1) (spOf K mg 1 fn_law) := by
  obtain ⟨fd__law_rng, F__law_rng⟩ := W.c.def_ 1 (d := d__law_rng) rfl
  have G__law_rng := ok__law_rng (w := w) W F__law_rng
  have g__law_rng := W.glo 2 (x := "_law_rng") rfl
  have B__law_rng := FunD.bindsN (ps := N__law_rng.take 1) F__law_rng (fun _ _ _ _ _ _ us hl => match us, hl with | [_], _ => rfl)
  have b_range := W.free 3 (x := "range") rfl
  have b_len := W.free 4 (x := "len") rfl
  have b_min := W.free 5 (x := "min") rfl
  obtain ⟨fd__law_draw, F__law_draw⟩ := W.c.def_ 2 (d := d__law_draw) rfl
  have G__law_draw := ok__law_draw (w := w) W F__law_draw
  have g__law_draw := W.glo 6 (x := "_law_draw") rfl
  have B__law_draw := FunD.bindsN (ps := N__law_draw.take 2) F__law_draw (fun _ _ _ _ _ _ us hl => match us, hl with | [_, _], _ => rfl)
  obtain ⟨fd_System_init, F_System_init⟩ := W.c.def_ 3 (d := d_System_init) rfl
  have G_System_init := ok_System_init (w := w) W F_System_init
  have g_System := W.glo 17 (x := "System") rfl
  have mk_System := W.mkr 25 (x := "System") rfl
  obtain ⟨fd__law_made_rows, F__law_made_rows⟩ := W.c.def_ 7 (d := d__law_made_rows) rfl
  have G__law_made_rows := ok__law_made_rows (w := w) W F__law_made_rows
  have g__law_made_rows := W.glo 29 (x := "_law_made_rows") rfl
  have B__law_made_rows := FunD.bindsN (ps := N__law_made_rows.take 5) F__law_made_rows (fun _ _ _ _ _ _ us hl => match us, hl with | [_, _, _, _, _], _ => rfl)
  obtain ⟨ds_B_System_init_4, dr_B_System_init_4, B_System_init_4⟩ := FunD.binds1 (ps := N_System_init.take 4) F_System_init 4 1 (by simp [d_System_init, He.DefD.dvs]) rfl (fun _ _ _ _ _ _ _ us its h1 h2 => match us, its, h1, h2 with | [_, _, _, _], [_], _, _ => ⟨_, rfl, rfl⟩)
  obtain ⟨fd__law_shown, F__law_shown⟩ := W.c.def_ 10 (d := d__law_shown) rfl
  have G__law_shown := ok__law_shown (w := w) W F__law_shown
  have g__law_shown := W.glo 36 (x := "_law_shown") rfl
  have B__law_shown := FunD.bindsN (ps := N__law_shown.take 1) F__law_shown (fun _ _ _ _ _ _ us hl => match us, hl with | [_], _ => rfl)
  obtain ⟨fd_System_names, F_System_names⟩ := (W.get 0 (d := p_System_names) rfl).2
  have G_System_names := ok_System_names (w := w) W F_System_names
  have B_System_names := FunD.bindsN (ps := N_System_names.take 1) F_System_names (fun _ _ _ _ _ _ us hl => match us, hl with | [_], _ => rfl)
  have c_System := W.cls 18 (x := "System") rfl
  have P_System_names := (W.get 0 (d := p_System_names) rfl).1
  obtain ⟨fd__law_reads_right, F__law_reads_right⟩ := W.c.def_ 16 (d := d__law_reads_right) rfl
  have G__law_reads_right := ok__law_reads_right (w := w) W F__law_reads_right
  have g__law_reads_right := W.glo 59 (x := "_law_reads_right") rfl
  have B__law_reads_right := FunD.bindsN (ps := N__law_reads_right.take 2) F__law_reads_right (fun _ _ _ _ _ _ us hl => match us, hl with | [_, _], _ => rfl)
  obtain ⟨fd__law_beside_right, F__law_beside_right⟩ := W.c.def_ 25 (d := d__law_beside_right) rfl
  have G__law_beside_right := ok__law_beside_right (w := w) W F__law_beside_right
  have g__law_beside_right := W.glo 60 (x := "_law_beside_right") rfl
  have B__law_beside_right := FunD.bindsN (ps := N__law_beside_right.take 2) F__law_beside_right (fun _ _ _ _ _ _ us hl => match us, hl with | [_, _], _ => rfl)
  obtain ⟨fd__law_mixed, F__law_mixed⟩ := W.c.def_ 8 (d := d__law_mixed) rfl
  have G__law_mixed := ok__law_mixed (w := w) W F__law_mixed
  have g__law_mixed := W.glo 27 (x := "_law_mixed") rfl
  have B__law_mixed := FunD.bindsN (ps := N__law_mixed.take 2) F__law_mixed (fun _ _ _ _ _ _ us hl => match us, hl with | [_, _], _ => rfl)
  obtain ⟨fd__law_raised, F__law_raised⟩ := W.c.def_ 17 (d := d__law_raised) rfl
  have G__law_raised := ok__law_raised (w := w) W F__law_raised
  have g__law_raised := W.glo 58 (x := "_law_raised") rfl
  have B__law_raised := FunD.bindsN (ps := N__law_raised.take 3) F__law_raised (fun _ _ _ _ _ _ us hl => match us, hl with | [_, _, _], _ => rfl)
  obtain ⟨fd__law_renamed_due, F__law_renamed_due⟩ := W.c.def_ 26 (d := d__law_renamed_due) rfl
  have G__law_renamed_due := ok__law_renamed_due (w := w) W F__law_renamed_due
  have g__law_renamed_due := W.glo 61 (x := "_law_renamed_due") rfl
  have B__law_renamed_due := FunD.bindsN (ps := N__law_renamed_due.take 2) F__law_renamed_due (fun _ _ _ _ _ _ us hl => match us, hl with | [_, _], _ => rfl)
  have b_sorted := W.free 22 (x := "sorted") rfl
  have b_list := W.free 26 (x := "list") rfl
  refine fn_ok0 (ms := ms_law) F sc_law fun cdv A outer s H E hr => ?_
  unfold ms_law
  exact (rs_cons (rs_set (i := 1) sc_law.nd (re_call G__law_rng (hr.mono (by decide)) rfl g__law_rng F__law_rng.kp B__law_rng .nil (fun _ _ _ => rfl) pass_any (ra_cons (re_var 0) ra_nil)))
    (rs_cons (rs_for PassesOwn.never rfl (ri_range1 rfl b_range (ra_cons (re_op op_add_any re_int (re_cb (cb_min rfl hr) rfl b_min (by rfl) (ra_cons re_int (ra_cons (re_cb cb_len rfl b_len (by rfl) (ra_cons (re_var 0) ra_nil)) ra_nil)))) ra_nil)) (rg_nm sc_law.nd) (rs_cons (rs_set (i := 3) sc_law.nd (re_op op_add_any re_int (re_fz 9 (re_call G__law_draw (hr.mono (by decide)) rfl g__law_draw F__law_draw.kp B__law_draw .nil (fun _ _ _ => rfl) pass_any (ra_cons (re_var 1) (ra_cons re_int ra_nil))))))
    (rs_cons (rs_set (i := 4) sc_law.nd (re_fz 9 (re_make mk_System g_System G_System_init (hr.mono (by decide)) rfl B_System_init_4 dr_B_System_init_4 (fun _ _ _ => rfl) pass_any (ra_cons (re_var 3) (ra_cons (re_fz 9 (re_call G__law_made_rows (hr.mono (by decide)) rfl g__law_made_rows F__law_made_rows.kp B__law_made_rows .nil (fun _ _ _ => rfl) pass_any (ra_cons (re_var 1) (ra_cons (re_var 3) (ra_cons (re_op op_add_any re_int (re_fz 9 (re_call G__law_draw (hr.mono (by decide)) rfl g__law_draw F__law_draw.kp B__law_draw .nil (fun _ _ _ => rfl) pass_any (ra_cons (re_var 1) (ra_cons re_int ra_nil))))) (ra_cons re_int (ra_cons re_int ra_nil))))))) (ra_cons re_int ra_nil))))))
    (rs_cons (rs_par (i := 5) (j := 6) rfl sc_law.nd (ra_cons (re_fz 9 (re_call G__law_shown (hr.mono (by decide)) rfl g__law_shown F__law_shown.kp B__law_shown .nil (fun _ _ _ => rfl) pass_any (ra_cons (re_var 4) ra_nil))) (ra_cons (re_fz 9 (re_prop g_System c_System (re_var 4) P_System_names G_System_names (hr.mono (by decide)) B_System_names .nil (fun _ _ _ => rfl) pass_any)) ra_nil)))
    (rs_cons (rs_if (PW.pt (rw_or (rt_not (rt_tru (re_fz 9 (re_call G__law_reads_right (hr.mono (by decide)) rfl g__law_reads_right F__law_reads_right.kp B__law_reads_right .nil (fun _ _ _ => rfl) pass_any (ra_cons (re_var 1) (ra_cons (re_var 4) ra_nil)))))) (rw_or1 (rt_not (rt_tru (re_fz 9 (re_call G__law_beside_right (hr.mono (by decide)) rfl g__law_beside_right F__law_beside_right.kp B__law_beside_right .nil (fun _ _ _ => rfl) pass_any (ra_cons (re_var 1) (ra_cons (re_var 4) ra_nil))))))))) (rs_one (rs_ret re_bl)) rs_nil)
    (rs_cons (rs_for PassesOwn.never rfl (ri_range1 rfl b_range (ra_cons re_int ra_nil)) (rg_nm sc_law.nd) (rs_cons (rs_set (i := 8) sc_law.nd re_dnew)
    (rs_cons (rs_for PassesOwn.never rfl (ri_any (re_slice sl_any (re_fz 9 (re_call G__law_mixed (hr.mono (by decide)) rfl g__law_mixed F__law_mixed.kp B__law_mixed .nil (fun _ _ _ => rfl) pass_any (ra_cons (re_var 1) (ra_cons (re_op op_add_any (re_var 6) (re_lst (ra_cons re_str (ra_cons re_str ra_nil)))) ra_nil)))) ro_no (ro_some (re_op op_add_any re_int (re_fz 9 (re_call G__law_draw (hr.mono (by decide)) rfl g__law_draw F__law_draw.kp B__law_draw .nil (fun _ _ _ => rfl) pass_any (ra_cons (re_var 1) (ra_cons re_int ra_nil)))))))) (rg_nm sc_law.nd) (rs_one (rs_dput hr (re_var 8) (re_var 9) (re_sub (ix_any hr) (re_op op_add_any (re_lst (ra_cons re_str (ra_cons re_str (ra_cons re_str (ra_cons re_str (ra_cons re_str ra_nil)))))) (re_var 6)) (re_fz 9 (re_call G__law_draw (hr.mono (by decide)) rfl g__law_draw F__law_draw.kp B__law_draw .nil (fun _ _ _ => rfl) pass_any (ra_cons (re_var 1) (ra_cons (re_op op_add_any re_int (re_cb cb_len rfl b_len (by rfl) (ra_cons (re_var 6) ra_nil))) ra_nil)))) (fun _ _ => rfl)))))
    (rs_one (rs_if (rt_cmp (op_ne_any hr) (re_fz 9 (re_call G__law_raised (hr.mono (by decide)) rfl g__law_raised F__law_raised.kp B__law_raised .nil (fun _ _ _ => rfl) pass_any (ra_cons re_int (ra_cons (re_var 4) (ra_cons (re_var 8) ra_nil))))) (re_fz 9 (re_call G__law_renamed_due (hr.mono (by decide)) rfl g__law_renamed_due F__law_renamed_due.kp B__law_renamed_due .nil (fun _ _ _ => rfl) pass_any (ra_cons (re_var 6) (ra_cons (re_var 8) ra_nil)))) (by rfl)) (rs_one (rs_ret re_bl)) rs_nil)))))
    (rs_cons (rs_for PassesOwn.never rfl (ri_any (re_lst (ra_cons (re_tup ra_nil) (ra_cons (re_slice sl_any (re_tup (ra_cons re_int (ra_cons re_int (ra_cons re_int ra_nil)))) ro_no (ro_some (re_var 3))) (ra_cons (re_tup (ra_cons re_int (ra_cons re_int ra_nil))) (ra_cons (re_tup (ra_cons re_int (ra_cons re_int ra_nil))) (ra_cons (re_tup (ra_cons re_int (ra_cons re_int (ra_cons re_int ra_nil)))) (ra_cons (re_tup (ra_cons (re_un un_neg_int re_int) (ra_cons re_int ra_nil))) (ra_cons (re_tup (ra_cons re_int ra_nil)) (ra_cons (re_tup (ra_cons re_int (ra_cons re_int (ra_cons re_int ra_nil)))) (ra_cons (re_tup (ra_cons re_int (ra_cons re_int (ra_cons re_int (ra_cons re_int ra_nil))))) ra_nil))))))))))) (rg_nm sc_law.nd) (rs_cons (rs_set (i := 10) sc_law.nd (re_ifE (rt_cmp (op_eq_any hr) (re_cb (cb_sortU hr) rfl b_sorted (by rfl) (ra_cons (re_var 7) ra_nil)) (re_listRg rfl rfl b_list rfl b_range (re_var 3)) (by rfl)) re_str (re_tup (ra_cons re_str (ra_cons (re_var 7) ra_nil)))))
    (rs_one (rs_if (rt_cmp (op_ne_any hr) (re_fz 9 (re_call G__law_raised (hr.mono (by decide)) rfl g__law_raised F__law_raised.kp B__law_raised .nil (fun _ _ _ => rfl) pass_any (ra_cons re_int (ra_cons (re_var 4) (ra_cons (re_var 7) ra_nil))))) (re_var 10) (by rfl)) (rs_one (rs_ret re_bl)) rs_nil))))
    (rs_one (rs_if (rt_cmp (op_ne_any hr) (re_fz 9 (re_call G__law_shown (hr.mono (by decide)) rfl g__law_shown F__law_shown.kp B__law_shown .nil (fun _ _ _ => rfl) pass_any (ra_cons (re_var 4) ra_nil))) (re_var 5) (by rfl)) (rs_one (rs_ret re_bl)) rs_nil)))))))))
    (rs_one (rs_ret re_bl))))
end LW
set_option maxHeartbeats 0
namespace LW
open PySem PySem.Spec PyProof.Rows L2 VM
abbrev R : PySem.W.OpenRow := PySem.W.OpenLaw.row PySem.Challenge.rw_farreads_k05_errors_of_systems
abbrev hk : PySem.W.Hook := hookP 6 facts defs gets errs (tfs.map (·.1))
def ob (s : PySem.W.SharedT) : AlP := obsP 6 facts defs gets errs (tfs.map (·.1)) (HandSHeadRun.getT s)
theorem ob_eq (s : PySem.W.SharedT) : ob s = hk.obs s.abs := obsP_eq (HandSHeadRun.getT_eq s)
def loose : List PySem.Str := (["ReadError", "InvalidSystem", "InvalidName", "InvalidAxes", "UnknownTable", "InvalidCell", "InvalidRead", "InvalidShifts", "InvalidNumber", "NotReady", "NoFar", "NothingToUndo", "Unreadable", "is_name", "is_read", "check_system", "check_table", "check_read", "table_list", "System", "_law_rng", "_law_draw", "_law_mixed", "_law_vector", "_law_made_rows", "_law_caught", "_law_shown", "_law_raised", "_law_renamed_due", "_law_reads_right"] : List PySem.Str) ++ (["_law_beside_right", "MOST_DIMENSIONS", "MOST_TABLES", "MOST_READS", "MOST_LETTERS", "LETTERS"] : List PySem.Str)
theorem run (w : World) : HandSHeadRun.RunEq R (PySem.W.view R.prog [39]) hk ob 6000 loose w := by
  intro os
  kernel_rfl
end LW
namespace LW
open PySem PySem.Spec PyProof.Rows L2 VM
private theorem nt_i {a b : Prop} (h : b) : bif !true then a else b := h
private theorem compR_i {mi : MI} {g : Tg} {tt : MT} {te : ME} {vs : List Nat} {xc : XC} {es : Es} {eh : Eh} {q : KE} (h : mi xc es eh fun xs ok eh1 => compL g tt te vs ok (qRef q) xs [] es eh1) : mCompR mi g tt te vs xc es eh q := h
private theorem nf_i {a b : Prop} (h : a) : bif !false then a else b := h
private theorem excv_i {cn : Str} {a : ME} {xc : XC} {es : Es} {eh : Eh} {q : KE} (h : a xc es eh fun x eh1 => q (.exc cn x) eh1) : mExc cn a xc es eh q := h
private theorem xval_i {ls : List Str} {a : ME} {xc : XC} {es : Es} {eh : Eh} {q : KE} (h : a xc es eh fun x eh1 => ∃ C y, x = .exc C y ∧ C ∈ ls ∧ q y eh1) : mXv ls a xc es eh q := h
private theorem daug_i {md mk mv : ME} {xc : XC} {d : Dn} {s : Es} {eh : Eh} (h : md xc s eh fun x eh1 => mk xc s eh1 fun y eh2 => ∃ p kvs key i, x = .ref p ∧ eh2 p = some (.dct kvs) ∧ keyE y = some key ∧ getK kvs key = some (.int i) ∧
    mv xc s eh2 fun z eh3 => ∃ j kvs', z = .int j ∧ eh3 p = some (.dct kvs') ∧ kvs'.length < sizeLine ∧ d.nx s (eupd eh3 p (some (.dct (putKE kvs' key (.int (i + j))))))) : sDAugE md mk mv xc d s eh := h
local macro_rules | `(tactic| walk_at "vm") => `(tactic| first
  | with_reducible refine fn_i ?_ | with_reducible refine seq_i ?_ | with_reducible refine next_i ?_ | with_reducible refine brk_i ?_ | with_reducible refine cont_i ?_ | with_reducible refine expr_i ?_ | with_reducible refine ret_i ?_ | with_reducible refine retN_i ?_
  | with_reducible refine set_i ?_ | with_reducible refine if_i ?_ | with_reducible refine asg_i ?_ | with_reducible refine par_i ?_ | with_reducible refine fld_s ?_ | with_reducible refine dput_i ?_ | with_reducible refine lput_i ?_ | with_reducible refine for_i ?_
  | with_reducible refine c_i ?_ | ((with_reducible apply var_i); rfl) | with_reducible refine op_i ?_ | with_reducible refine un_i ?_ | with_reducible refine chain_i ?_ | with_reducible refine ife_i ?_ | with_reducible refine anil_i ?_ | with_reducible refine acons_i ?_ | with_reducible refine astar_i ?_
  | with_reducible refine tup_i ?_ | with_reducible refine lst_i ?_ | with_reducible refine lstR_i ?_ | with_reducible refine fld_i ?_ | with_reducible refine dnew_i ?_ | with_reducible refine cb_i ?_ | with_reducible refine bm_i ?_ | with_reducible refine sl_i ?_ | with_reducible refine no_i ?_ | with_reducible refine pt_i ?_
  | with_reducible refine fzc_i ?_ | with_reducible refine fzn_i ?_ | with_reducible refine fzp_i ?_ | with_reducible refine fzm_i ?_ | with_reducible refine methn_i ?_ | with_reducible refine max2_i ?_ | with_reducible refine fzk_i ?_ | with_reducible refine call_i ?_ | with_reducible refine calln_i ?_ | with_reducible refine make_i ?_ | with_reducible refine prop_i ?_ | with_reducible refine meth_i ?_ | with_reducible refine sortk_i ?_ | with_reducible refine comp_i ?_ | with_reducible refine comp2_i ?_
  | with_reducible refine val_i ?_ | with_reducible refine tru_i ?_ | with_reducible refine tand_i ?_ | with_reducible refine tor_i ?_ | with_reducible refine tnot_i ?_ | with_reducible refine tyes_i ?_ | with_reducible refine mand_i ?_ | with_reducible refine mor_i ?_ | with_reducible refine mnot_i ?_
  | with_reducible refine bl_i ?_ | with_reducible refine cT_i ?_ | with_reducible refine cF_i ?_ | with_reducible refine add_i ?_ | with_reducible refine sub_i ?_ | with_reducible refine neg_i ?_ | with_reducible refine lt_i ?_ | with_reducible refine le_i ?_ | with_reducible refine gt_i ?_ | with_reducible refine ge_i ?_
  | with_reducible refine eqI_i ?_ | with_reducible refine neI_i ?_ | with_reducible refine eqS_i ?_ | with_reducible refine int_i ?_ | with_reducible refine abs_i ?_ | with_reducible refine min2_i ?_ | with_reducible refine any_i ?_ | with_reducible refine rng1_i ?_ | with_reducible refine enum_i ?_ | with_reducible refine zip_i ?_ | with_reducible refine zipT_i ?_ | with_reducible refine items_i ?_)
local macro_rules | `(tactic| walk_at "go") => `(tactic| repeat (first
  | walk_at "vm"
  | with_reducible refine excv_i ?_ | with_reducible refine xval_i ?_ | with_reducible refine daug_i ?_ | with_reducible refine compR_i ?_ | with_reducible refine nt_i ?_ | with_reducible refine nf_i ?_
  | with_reducible refine ⟨szL (by simp), ?_⟩
  | with_reducible refine asgx_i (by with_unfolding_all rfl) ?_
  | with_reducible refine walkT_i ?_ | with_reducible refine walkS_i ?_ | with_reducible refine lenF_i ?_ | with_reducible refine lenT_i ?_ | with_reducible refine tru_bl ?_ | with_reducible refine intx_i ?_
  | with_reducible refine tupleL_i ?_ | with_reducible refine slT_i ?_ | with_reducible refine rev_i ?_
  | dsimp only))
local macro_rules | `(tactic| walk_at "nz") => `(tactic| simp only [List.map_cons, List.map_nil, List.append_nil, List.length_cons, List.length_nil, Nat.reduceAdd, Nat.reduceSub, List.replicate_succ, List.replicate_zero, List.cons_append, List.nil_append, List.set_cons_zero, List.set_cons_succ])

/-! ### the source of draws -/
def rgO (s : Int × Int × Int) : EO := .lst [.int s.1, .int s.2.1, .int s.2.2]
structure RgOk (b : Int) (s : Int × Int × Int) : Prop where
  x0 : 0 ≤ s.1
  y0 : 0 ≤ s.2.1
  y1 : s.2.1 < 2 ^ 62
  z0 : 0 ≤ s.2.2
  z1 : s.2.2 ≤ b
theorem RgOk.mono {b c : Int} {s : Int × Int × Int} (h : RgOk b s) (l : b ≤ c) : RgOk c s := ⟨h.x0, h.y0, h.y1, h.z0, by have := h.z1; omega⟩
theorem log_small {n : Int} (h : 0 < n) (h2 : n < 2 ^ 200) : 0 < n ∧ n.natAbs.log2 < 9000 := by
  refine ⟨h, ?_⟩
  have h3 : n.natAbs < 2 ^ 200 := by omega
  have h4 := (Nat.log2_lt (n := n.natAbs) (k := 200) (by omega)).mpr h3
  omega
theorem bits_of {i : Int} {m : Nat} (h : i.natAbs < 2 ^ m) : Builtin.Int.intBits i ≤ m := PySem.intBits_le_iff.mpr h
theorem draw_ok {xc : XC} {a : Addr} {s : Int × Int × Int} {n b : Int} {eh : Eh} {q : KE} (h : eh a = some (rgO s)) (hs : RgOk b s) (hb : b ≤ 1000000000) (hn : 0 < n) (hn2 : n < 2 ^ 200)
    (k : ∀ v s', 0 ≤ v → v < n → RgOk (b + 1) s' → q (.int v) (eupd eh a (some (rgO s')))) : fn__law_draw xc [.ref a, .int n] eh q := by
  obtain ⟨x, y, z⟩ := s
  have e1 : seqE eh (.ref a) = some [.int x, .int y, .int z] := by simp only [seqE, h, rgO]
  have hx0 : 0 ≤ x := hs.x0
  have hy0 : 0 ≤ y := hs.y0
  have hy1 : y < 2 ^ 62 := hs.y1
  have hz0 : 0 ≤ z := hs.z0
  have hz1 : z ≤ b := hs.z1
  unfold fn__law_draw ms__law_draw
  repeat walk_at "vm"
  refine ix_i e1 (by rfl) ?_
  repeat walk_at "vm"
  refine cD_i (fun hx => ?_) (fun hx => ?_)
  · repeat walk_at "vm"
    refine ix_i e1 (by rfl) ?_
    repeat walk_at "vm"
    refine mod_i hn ?_
    dsimp only
    repeat walk_at "vm"
    refine ix_i e1 (by rfl) ?_
    repeat walk_at "vm"
    refine div_i (log_small hn hn2) ?_
    repeat walk_at "vm"
    refine ⟨_, _, _, _, rfl, h, rfl, rfl, ?_⟩
    repeat walk_at "vm"
    exact k _ (x / n, y, z) (Int.emod_nonneg _ (by omega)) (Int.emod_lt_of_pos _ hn) ⟨Int.ediv_nonneg hx0 (by omega), hy0, hy1, hz0, by show z ≤ b + 1; omega⟩
  · repeat walk_at "vm"
    dsimp only
    repeat walk_at "vm"
    refine ix_i e1 (by rfl) ?_
    repeat walk_at "vm"
    refine ⟨_, _, _, _, rfl, h, rfl, rfl, ?_⟩
    have e3 : seqE (eupd eh a (some (.lst ([EV.int x, .int y, .int z].set 2 (.int (z + 1)))))) (.ref a) = some [.int x, .int y, .int (z + 1)] := by simp only [seqE, eupd_same]; rfl
    repeat walk_at "vm"
    refine ix_i e3 (by rfl) ?_
    repeat walk_at "vm"
    refine ix_i e3 (by rfl) ?_
    refine mul_i (.inl (.inl (by constructor <;> decide))) ?_
    repeat walk_at "vm"
    refine pow_i ⟨by decide, ?_⟩ ?_
    · have hb1 : Builtin.Int.intBits (y + 998244353 * (z + 1)) ≤ 100 := bits_of (by omega)
      omega
    repeat walk_at "vm"
    refine mod_i (by decide) ?_
    dsimp only
    generalize hw : (y + 998244353 * (z + 1)) ^ (3 : Int).toNat % 162259276829213363391578010288127 = w
    have hw0 : 0 ≤ w := by rw [← hw]; exact Int.emod_nonneg _ (by decide)
    have hw1 : w < 162259276829213363391578010288127 := by rw [← hw]; exact Int.emod_lt_of_pos _ (by decide)
    repeat walk_at "vm"
    refine ix_i e3 (by rfl) ?_
    refine mul_i (.inl (.inl (by constructor <;> decide))) ?_
    repeat walk_at "vm"
    refine pow_i ⟨by decide, ?_⟩ ?_
    · have hb1 : Builtin.Int.intBits (w + 32452843 * (z + 1)) ≤ 120 := bits_of (by omega)
      omega
    repeat walk_at "vm"
    refine mod_i (by decide) ?_
    dsimp only
    generalize (w + 32452843 * (z + 1)) ^ (3 : Int).toNat % 170141183460469231731687303715884105727 = u
    repeat walk_at "vm"
    refine div_i (by decide) ?_
    repeat walk_at "vm"
    refine mod_i hn ?_
    exact k _ (x, y, z + 1) (Int.emod_nonneg _ (by omega)) (Int.emod_lt_of_pos _ hn) ⟨hx0, hy0, hy1, by show 0 ≤ z + 1; omega, by show z + 1 ≤ b + 1; omega⟩

/-! ### what a call leaves -/
def Fr (eh : Eh) (a : Addr) (s : Int × Int × Int) (eh' : Eh) : Prop := (∀ c, eh c ≠ none → c ≠ a → eh' c = eh c) ∧ eh' a = some (rgO s)
theorem Fr.dr {eh eh' : Eh} {a : Addr} {s : Int × Int × Int} (f : Fr eh a s eh') (h : eh a ≠ none) : drE (nw eh) eh' = eupd eh a (some (rgO s)) := by
  funext c
  unfold drE nw eupd
  by_cases hc : c = a
  · subst hc; cases e : eh c <;> simp_all [f.2]
  · cases e : eh c with
    | none => simp [hc]
    | some o => simp only [Option.isNone_some, Bool.false_eq_true, if_false, if_neg hc]; rw [f.1 c (by simp [e]) hc, e]
theorem Fr.one {eh : Eh} {a : Addr} {s : Int × Int × Int} : Fr eh a s (eupd eh a (some (rgO s))) := ⟨fun _ _ n => eupd_ne n, eupd_same⟩
theorem Fr.trans {eh eh1 eh2 : Eh} {a : Addr} {s s' : Int × Int × Int} (f : Fr eh a s eh1) (g : Fr eh1 a s' eh2) : Fr eh a s' eh2 := ⟨fun c h n => by rw [g.1 c (by rw [f.1 c h n]; exact h) n, f.1 c h n], g.2⟩
theorem draw_fz {S : Addr → Bool} {xc : XC} {a : Addr} {s : Int × Int × Int} {n b : Int} {eh : Eh} {q : KE} (hS : S = nw eh) (h : eh a = some (rgO s)) (hs : RgOk b s) (hb : b ≤ 1000000000) (hn : 0 < n) (hn2 : n < 2 ^ 200)
    (k : ∀ v s', 0 ≤ v → v < n → RgOk (b + 1) s' → q (.int v) (eupd eh a (some (rgO s')))) : ([EV.ref a, .int n] ++ []).length = 2 ∧ FZ S fn__law_draw xc ([EV.ref a, .int n] ++ []) eh q :=
  ⟨rfl, draw_ok h hs hb hn hn2 fun v s' h0 h1 hs' => by rw [hS, drE_same (by rw [h]; simp)]; exact k v s' h0 h1 hs'⟩
theorem fz_strs {S : Addr → Bool} {eh : Eh} {k : Nat} (ws : List Str) : (ws.map EV.str).map (fz S eh k) = ws.map EV.str := by
  rw [List.map_map]; apply List.map_congr_left; intro w _; cases k <;> rfl
theorem fz_ints {S : Addr → Bool} {eh : Eh} {k : Nat} (ws : List Int) : (ws.map EV.int).map (fz S eh k) = ws.map EV.int := by
  rw [List.map_map]; apply List.map_congr_left; intro w _; cases k <;> rfl
/-! ### items mixed -/
theorem fzl {eh eh0 : Eh} {p : Addr} {xs ys : List EV} {k : Nat} (h0 : eh0 p = none) (h : eh p = some (.lst xs)) (e : xs.map (fz (nw eh0) eh k) = ys) : fz (nw eh0) eh (k + 1) (.ref p) = .lst ys := by
  simp only [fz, nw, h0, h, Option.isNone_none, if_true, e]
theorem erase_perm {α : Type} : ∀ (l : List α) {i : Nat} (h : i < l.length), (l[i] :: l.eraseIdx i).Perm l
  | x :: l, 0, _ => by simp
  | x :: l, i + 1, h => by
    have := erase_perm l (i := i) (by simpa using h)
    simp only [List.getElem_cons_succ, List.eraseIdx_cons_succ]
    exact (List.Perm.swap _ _ _).trans (this.cons x)
theorem perm_map {α β : Type} {f : α → β} {l m : List β} (h : l.Perm m) : ∀ ws : List α, m = ws.map f → ∃ us : List α, us.Perm ws ∧ l = us.map f := by
  induction h with
  | nil => intro ws e; exact ⟨[], by cases ws <;> simp_all, rfl⟩
  | cons x _ ih =>
    intro ws e
    cases ws with
    | nil => cases e
    | cons w ws =>
      simp only [List.map_cons, List.cons.injEq] at e
      obtain ⟨us, p, e2⟩ := ih ws e.2
      exact ⟨w :: us, p.cons w, by rw [e.1, e2]; rfl⟩
  | swap x y l =>
    intro ws e
    cases ws with
    | nil => cases e
    | cons w ws => cases ws with
      | nil => simp at e
      | cons v ws =>
        simp only [List.map_cons, List.cons.injEq] at e
        exact ⟨v :: w :: ws, .swap _ _ _, by rw [e.1, e.2.1, e.2.2]; rfl⟩
  | trans _ _ ih1 ih2 =>
    intro ws e
    obtain ⟨us, p, e2⟩ := ih2 ws e
    obtain ⟨vs, p2, e3⟩ := ih1 us e2
    exact ⟨vs, p2.trans p, e3⟩
theorem mixedE_fz {S : Addr → Bool} {xc : XC} {a : Addr} {s : Int × Int × Int} {ws : List EV} {n : Nat} {b : Int} {eh : Eh} {q : KE} (hS : S = nw eh) (h : eh a = some (rgO s)) (hs : RgOk b s) (hb : b + 100 ≤ 1000000000) (hl : ws.length ≤ 90) (ho : ∀ w ∈ ws, okD n w = true) (hn : n ≤ 50)
    (k : ∀ (ts : List EV) (s' : Int × Int × Int), ts.Perm ws → RgOk (b + 100) s' → q (.lst ts) (eupd eh a (some (rgO s')))) : ([EV.ref a, .lst ws] ++ []).length = 2 ∧ FZ S fn__law_mixed xc ([EV.ref a, .lst ws] ++ []) eh q := by
  refine ⟨rfl, ?_⟩
  subst hS
  unfold FZ fn__law_mixed ms__law_mixed
  walk_at "go"
  refine listR_i rfl fun p hp => ?_
  walk_at "go"
  intro p2 hp2
  walk_at "go"
  refine ⟨_, _, rfl, ?_⟩
  have hap : p ≠ a := fun z => by rw [z, h] at hp; cases hp
  have hpp : p2 ≠ p := fun z => by rw [z, eupd_same] at hp2; cases hp2
  rw [eupd_ne hpp] at hp2
  have hap2 : p2 ≠ a := fun z => by rw [z, h] at hp2; cases hp2
  walk_at "go"
  refine while_inv (fun m es eh' => ∃ (us ts : List EV) (s' : Int × Int × Int) (c : Int), us.length = m ∧ (us ++ ts).Perm ws ∧ eh' a = some (rgO s') ∧ eh' p = some (.lst us) ∧ eh' p2 = some (.lst ts) ∧ RgOk c s' ∧ c + m ≤ b + 90 ∧ (∀ c, c ≠ a → c ≠ p → c ≠ p2 → eh' c = eh c) ∧
    es = [some (.ref a), some (.lst ws), some (.ref p), some (.ref p2)]) ws.length ?_ ?_
  · exact ⟨ws, [], s, b, rfl, by simp, by rw [eupd_ne hap2.symm, eupd_ne hap.symm]; exact h, by rw [eupd_ne hpp.symm, eupd_same], eupd_same, hs, by omega, fun c h1 h2 h3 => by rw [eupd_ne h3, eupd_ne h2], rfl⟩
  · rintro m es eh' ⟨us, ts, s', c, hm, hperm, ha', hp', hp2', hs', hc, fr, rfl⟩ qt hq
    have hlen := hperm.length_eq
    rw [List.length_append] at hlen
    have hou : ∀ w ∈ us, okD n w = true := fun w hw => ho w (hperm.mem_iff.mp (by simp [hw]))
    walk_at "go"
    refine eq_i (n := n + 1) (m := 1) (decide (us = [])) (fro_ref hp') fro_same (List.all_eq_true.mpr hou) rfl (by omega) (by omega) (by cases us <;> simp) ?_
    rw [Bool.true_xor]
    refine ⟨_, rfl, hq _ _ (fun ht d' hrt hn' _ _ => ?_) (fun hf => ?_)⟩
    · have hne : us ≠ [] := by simpa using ht
      have hpos : 0 < us.length := List.length_pos_iff.mpr hne
      unfold bd__law_mixed_1
      walk_at "go"
      refine ⟨⟨ts, by simp only [lstE, hp2']⟩, ?_⟩
      walk_at "go"
      refine ⟨⟨us, by simp only [lstE, hp']⟩, ?_⟩
      walk_at "go"
      refine lenL_i (fro_ref hp') ?_
      walk_at "go"
      refine draw_fz rfl ha' hs' (by omega) (by omega) (by omega) fun v s2 v0 v1 hs2 => ?_
      obtain ⟨i, rfl⟩ := Int.eq_ofNat_of_zero_le v0
      have hi : i < us.length := by omega
      refine ⟨us, i, us[i], by rw [eupd_ne hap]; exact hp', by omega, by omega, ?_, by simp [hi], ?_⟩
      · simp only [ixN]; rw [if_pos (by omega), if_pos (by omega)]; rfl
      walk_at "go"
      refine ⟨ts, by rw [eupd_ne hpp, eupd_ne hap2]; exact hp2', szT (by omega), ?_⟩
      refine hn' (m - 1) _ _ (by omega) ⟨us.eraseIdx i, ts ++ [us[i]], s2, c + 1, by rw [List.length_eraseIdx_of_lt hi, hm], ?_, by rw [eupd_ne hap2.symm, eupd_ne hap.symm, eupd_same], by rw [eupd_ne hpp.symm, eupd_same], eupd_same, hs2, by omega, fun x x1 x2 x3 => by rw [eupd_ne x3, eupd_ne x2, eupd_ne x1, fr x x1 x2 x3], rfl⟩
      refine List.Perm.trans ?_ hperm
      have e1 := erase_perm us hi
      rw [← List.append_assoc]
      refine List.Perm.trans List.perm_append_comm ?_
      rw [← List.append_assoc]
      exact e1.append_right ts
    · have he : us = [] := by simpa using hf
      subst he
      walk_at "go"
      have hfr : Fr eh a s' eh' := ⟨fun c hc hca => fr c hca (fun z => hc (z ▸ hp)) (fun z => hc (z ▸ hp2)), ha'⟩
      have hot : okB (n + 1) (.lst ts) = true := okB_of (n := n + 1) (List.all_eq_true.mpr fun w hw => ho w (hperm.mem_iff.mp (by simpa using hw)))
      have e2 : ts.map (fz (nw eh) eh' 8) = ts := (List.map_congr_left fun y hy => fz_okB (n := n) (List.all_eq_true.mp hot y hy)).trans (List.map_id _)
      rw [hfr.dr (by rw [h]; simp), fzl hp2 hp2' e2]
      exact k ts s' (by simpa using hperm) (hs'.mono (by omega))
theorem mixed_fz {S : Addr → Bool} {xc : XC} {a : Addr} {s : Int × Int × Int} {ws : List Str} {b : Int} {eh : Eh} {q : KE} (hS : S = nw eh) (h : eh a = some (rgO s)) (hs : RgOk b s) (hb : b + 100 ≤ 1000000000) (hl : ws.length ≤ 90)
    (k : ∀ (ts : List Str) (s' : Int × Int × Int), ts.Perm ws → RgOk (b + 100) s' → q (.lst (ts.map .str)) (eupd eh a (some (rgO s')))) : ([EV.ref a, .lst (ws.map .str)] ++ []).length = 2 ∧ FZ S fn__law_mixed xc ([EV.ref a, .lst (ws.map .str)] ++ []) eh q :=
  mixedE_fz (n := 0) hS h hs hb (by simpa using hl) (fun w hw => by obtain ⟨x, _, rfl⟩ := List.mem_map.mp hw; rfl) (by decide) fun ts s' hp hs' => by
    obtain ⟨us, h1, rfl⟩ := perm_map hp ws rfl
    exact k us s' h1 hs'

/-! ### vectors drawn -/
theorem szl {n : Nat} (h : n ≤ 1000) : n ≤ sizeLine := Nat.le_trans h (by decide)
theorem fz_tupI {S : Addr → Bool} {eh : Eh} {k : Nat} (ns : List Int) : fz S eh (k + 1) (.tup (ns.map .int)) = .tup (ns.map .int) := by
  show EV.tup ((ns.map EV.int).map (fz S eh k)) = _
  rw [fz_ints]
theorem vector_loop {xc : XC} {d : Dn} {a p : Addr} {dims wide : Int} (hap : p ≠ a) (hw0 : 0 ≤ wide) (hw1 : wide ≤ 1000000) : ∀ (L : List EV) (ns : List Int) (s : Int × Int × Int) (b : Int) (z : Option EV) (eh : Eh), ns.length + L.length ≤ 100 → eh a = some (rgO s) → eh p = some (.lst (ns.map .int)) →
    RgOk b s → b + 3 * L.length ≤ 1000000000 → (∀ n ∈ ns, -(wide + 1) ≤ n ∧ n ≤ wide + 1) →
    (∀ (s' : Int × Int × Int) (ns' : List Int) (z' : Option EV) (eh' : Eh), RgOk (b + 3 * L.length) s' → ns'.length = ns.length + L.length → (∀ n ∈ ns', -(wide + 1) ≤ n ∧ n ≤ wide + 1) → eh' a = some (rgO s') → eh' p = some (.lst (ns'.map .int)) → (∀ c, c ≠ a → c ≠ p → eh' c = eh c) →
      d.nx [some (.ref a), some (.int dims), some (.int wide), some (.ref p), z'] eh') →
    forL (.nm 4) (sExpr (mBM isLst oAppend (mVar 3) (aCons (mOp oIx (mLst (aCons (mC (.int 0)) (aCons (mC (.int 1)) (aCons (mFz 9 (mCall fn__law_draw 2 [] (aCons (mVar 0) (aCons (mOp oAdd (mVar 2) (mC (.int 1))) aNil)))) (aCons (mOp oSub (mC (.int 0)) (mFz 9 (mCall fn__law_draw 2 [] (aCons (mVar 0) (aCons (mOp oAdd (mVar 2) (mC (.int 1))) aNil))))) aNil))))) (mFz 9 (mCall fn__law_draw 2 [] (aCons (mVar 0) (aCons (mC (.int 4)) aNil))))) aNil))) (fun _ => True) xc d L [some (.ref a), some (.int dims), some (.int wide), some (.ref p), z] eh := by
  intro L
  induction L with
  | nil =>
    intro ns s b z eh _ ha hp hs hb hn k
    exact forL_nil trivial (k s ns z eh (hs.mono (by simp)) (by simp) hn ha hp fun c _ _ => rfl)
  | cons x L ih =>
    intro ns s b z eh hl ha hp hs hb hn k
    simp only [List.length_cons] at hl hb
    refine forL_cons trivial rfl ?_
    repeat walk_at "vm"
    refine ⟨⟨ns.map .int, by simp [lstE, hp]⟩, ?_⟩
    repeat walk_at "vm"
    refine draw_fz rfl ha hs (by omega) (by omega) (by omega) fun v1 s1 h1 h1' hs1 => ?_
    repeat walk_at "vm"
    refine draw_fz rfl eupd_same hs1 (by omega) (by omega) (by omega) fun v2 s2 h2 h2' hs2 => ?_
    repeat walk_at "vm"
    refine ⟨szl (by simp), ?_⟩
    repeat walk_at "vm"
    refine draw_fz rfl eupd_same hs2 (by omega) (by omega) (by omega) fun v3 s3 h3 h3' hs3 => ?_
    have hz : ∃ n, atI [EV.int 0, EV.int 1, EV.int v1, EV.int (0 - v2)] v3 = some (.int n) ∧ -(wide + 1) ≤ n ∧ n ≤ wide + 1 := by
      have : v3 = 0 ∨ v3 = 1 ∨ v3 = 2 ∨ v3 = 3 := by omega
      rcases this with rfl | rfl | rfl | rfl
      · exact ⟨0, rfl, by omega, by omega⟩
      · exact ⟨1, rfl, by omega, by omega⟩
      · exact ⟨v1, rfl, by omega, by omega⟩
      · exact ⟨0 - v2, rfl, by omega, by omega⟩
    obtain ⟨n, hz, n0, n1⟩ := hz
    refine ix_i (by rfl) hz ?_
    repeat walk_at "vm"
    rw [eupd_eupd, eupd_eupd]
    refine ⟨ns.map .int, by rw [eupd_ne hap]; exact hp, by rw [List.length_map]; exact Nat.lt_of_lt_of_le (show ns.length < 200 by omega) (by decide), ?_⟩
    refine ih (ns ++ [n]) s3 (b + 3) _ _ (by simp; omega) (by rw [eupd_ne hap.symm, eupd_same]) (by rw [eupd_same]; simp) (hs3.mono (by omega)) (by omega) ?_ fun s' ns' z' eh' r l m f1 f2 f3 => k s' ns' z' eh' (r.mono (by simp; omega)) (by simp at l ⊢; omega) m f1 f2 fun c c1 c2 => by rw [f3 c c1 c2, eupd_ne c2, eupd_ne c1]
    intro k hk
    rcases List.mem_append.mp hk with hk | hk
    · exact hn k hk
    · obtain rfl := List.mem_singleton.mp hk; exact ⟨n0, n1⟩
theorem vector_fz {S : Addr → Bool} {xc : XC} {a : Addr} {s : Int × Int × Int} {dims wide b : Int} {eh : Eh} {q : KE} (hS : S = nw eh) (h : eh a = some (rgO s)) (hs : RgOk b s) (hb : b + 100 ≤ 1000000000) (hd0 : 0 ≤ dims) (hd1 : dims ≤ 10) (hw0 : 0 ≤ wide) (hw1 : wide ≤ 1000000)
    (k : ∀ (ns : List Int) (s' : Int × Int × Int), ns.length = dims.toNat → (∀ n ∈ ns, -(wide + 1) ≤ n ∧ n ≤ wide + 1) → RgOk (b + 30) s' → q (.tup (ns.map .int)) (eupd eh a (some (rgO s')))) : ([EV.ref a, .int dims, .int wide] ++ []).length = 3 ∧ FZ S fn__law_vector xc ([EV.ref a, .int dims, .int wide] ++ []) eh q := by
  refine ⟨rfl, ?_⟩
  subst hS
  unfold FZ fn__law_vector ms__law_vector
  repeat walk_at "vm"
  refine ⟨by decide, fun p hp => ?_⟩
  have hap : p ≠ a := fun z => by rw [z, h] at hp; cases hp
  repeat walk_at "vm"
  refine ⟨_, rfl, by omega, ?_⟩
  refine vector_loop hap hw0 hw1 _ [] s b _ _ (by simp; omega) (by rw [eupd_ne hap.symm]; exact h) (by rw [eupd_same]; rfl) hs (by simp; omega) (by simp) fun s' ns' z' eh' r l m f1 f2 f3 => ?_
  repeat walk_at "vm"
  refine tuple_i (xs := ns'.map .int) (by simp [seqE, f2]) ?_
  repeat walk_at "vm"
  dsimp only
  have hfr : Fr eh a s' eh' := ⟨fun c hc hca => by
    have n1 : c ≠ p := fun z => by rw [z] at hc; exact hc hp
    rw [f3 c hca n1, eupd_ne n1], f1⟩
  rw [hfr.dr (by rw [h]; simp)]
  have e : fz (nw eh) eh' 9 (.tup (ns'.map .int)) = .tup (ns'.map .int) := fz_tupI ns'
  rw [e]
  exact k ns' s' (by simpa using l) m (r.mono (by simp; omega))

/-! ### rows drawn -/
structure Rd where
  t : Str
  v : List Int
  f : Int
structure Row where
  w : Str
  n : Int
  rs : List Rd
def rdE (r : Rd) : EV := .tup [.str r.t, .tup (r.v.map .int), .int r.f]
def rowE (r : Row) : EV := .tup [.str r.w, .int r.n, .lst (r.rs.map rdE)]
def W0 : List Str := ["a", "b", "c", "ab", "zz", "readhere"]
def rowW (w : Str) : Str := "row" ++ L2.cutS w none (some 5)
def WORDS : List Str := W0 ++ W0.map rowW
structure RdOk (dims wide : Int) (ws : List Str) (x : Rd) : Prop where
  t : x.t ∈ ws
  l : x.v.length = dims.toNat
  b : ∀ n ∈ x.v, -(wide + 1) ≤ n ∧ n ≤ wide + 1
  f : x.f ≠ 0 ∧ -10 ≤ x.f ∧ x.f ≤ 10
structure Good (dims many most wide : Int) (rows : List Row) : Prop where
  len : rows.length = many.toNat
  nd : (rows.map (·.w)).Nodup
  wd : ∀ r ∈ rows, r.w ∈ WORDS
  num : ∀ r ∈ rows, -99 ≤ r.n ∧ r.n ≤ 99
  tot : (((rows.map fun r => r.rs.length).sum : Nat) : Int) ≤ most
  rd : ∀ r ∈ rows, ∀ x ∈ r.rs, RdOk dims wide (rows.map (·.w)) x
/-- a row whose list of reads stands at p -/
structure RowS where
  r : Row
  p : Addr
def rowS (t : RowS) : EV := .tup [.str t.r.w, .int t.r.n, .ref t.p]
structure HpR (eh0 : Eh) (a : Addr) (eh : Eh) (L : List RowS) : Prop where
  at_ : ∀ t ∈ L, eh t.p = some (.lst (t.r.rs.map rdE))
  nd : (L.map (·.p)).Nodup
  new : ∀ t ∈ L, eh0 t.p = none ∧ t.p ≠ a
theorem cut_take {xs : List EV} {k : Nat} : cutE xs none (some (k : Int)) = xs.take k := by
  unfold cutE
  rw [HT.sIx_none, HT.sIx_nat]
  simp only [List.drop_zero, Nat.sub_zero]
  by_cases h : k ≤ xs.length
  · rw [Nat.min_eq_left h]
  · rw [Nat.min_eq_right (by omega), List.take_length, List.take_of_length_le (by omega)]
theorem fz_rd {S : Addr → Bool} {eh : Eh} {k : Nat} (r : Rd) : fz S eh (k + 2) (rdE r) = rdE r := by
  show EV.tup [fz S eh (k + 1) (.str r.t), fz S eh (k + 1) (.tup (r.v.map .int)), fz S eh (k + 1) (.int r.f)] = _
  rw [fz_tupI]; rfl
theorem fz_rds {S : Addr → Bool} {eh : Eh} {k : Nat} (rs : List Rd) : (rs.map rdE).map (fz S eh (k + 2)) = rs.map rdE := by
  rw [List.map_map]; exact List.map_congr_left fun r _ => fz_rd r
theorem fz_rows {eh0 eh : Eh} {a : Addr} {L : List RowS} (h : HpR eh0 a eh L) : fz (nw eh0) eh 9 (.lst (L.map rowS)) = .lst ((L.map (·.r)).map rowE) := by
  show EV.lst ((L.map rowS).map (fz (nw eh0) eh 8)) = _
  rw [List.map_map, List.map_map]
  congr 1
  apply List.map_congr_left
  intro t ht
  show EV.tup [fz (nw eh0) eh 7 (.str t.r.w), fz (nw eh0) eh 7 (.int t.r.n), fz (nw eh0) eh 7 (.ref t.p)] = _
  rw [fzl (h.new t ht).1 (h.at_ t ht) (fz_rds t.r.rs)]; rfl
theorem words_comp {es : Es} {q : KE} {eh : Eh} (he : 8 < es.length) : ∀ (ws : List Str) (acc : List EV), acc.length + ws.length ≤ 100 → (∀ w ∈ ws, w.length ≤ 100) → q (.lst (acc ++ ws.map fun w => EV.str (rowW w))) eh →
    compL (.nm 8) tYesE ce__law_made_rows_1 [8] (fun _ => True) q (ws.map .str) acc es eh
  | [], acc, _, _, k => compL_nil trivial (by simpa using k)
  | w :: ws, acc, hl, hw, k => by
    refine compL_cons trivial rfl ?_
    have hwl : w.length ≤ 100 := hw w (by simp)
    unfold ce__law_made_rows_1
    repeat walk_at "vm"
    refine var_i (x := .str w) (by simp [wipeE, he]) ?_
    repeat walk_at "vm"
    refine ⟨_, rfl, ?_⟩
    repeat walk_at "vm"
    refine ⟨szl (by omega), ?_⟩
    have hc : (L2.cutS w none (some 5)).length ≤ 100 := Nat.le_trans (cutS_length w none (some 5)) hwl
    refine ⟨szl (by show 3 + _ ≤ 1000; omega), ?_⟩
    refine ⟨szl (by simp at hl ⊢; omega), ?_⟩
    exact words_comp he ws (acc ++ [.str (rowW w)]) (by simp at hl ⊢; omega) (fun v hv => hw v (by simp [hv])) (by simpa [rowW] using k)
theorem rows_comp {a : Addr} {es : Es} {q : KE} {eh0 : Eh} (he : 8 < es.length) (h0 : es[0]? = some (some (.ref a))) (h0a : eh0 a ≠ none) : ∀ (ws : List Str) (L : List RowS) (s : Int × Int × Int) (b : Int) (eh : Eh), L.length + ws.length ≤ 100 → Fr eh0 a s eh → HpR eh0 a eh L → RgOk b s → b + ws.length ≤ 1000000000 → (∀ t ∈ L, t.r.rs = [] ∧ -99 ≤ t.r.n ∧ t.r.n ≤ 99) →
    (∀ (L' : List RowS) (s' : Int × Int × Int) (eh' : Eh), Fr eh0 a s' eh' → HpR eh0 a eh' L' → RgOk (b + ws.length) s' → (∀ t ∈ L', t.r.rs = [] ∧ -99 ≤ t.r.n ∧ t.r.n ≤ 99) → L'.map (·.r.w) = L.map (·.r.w) ++ ws → q (.lst (L'.map rowS)) eh') →
    compL (.nm 8) tYesE ce__law_made_rows_2 [8] (fun _ => True) q (ws.map .str) (L.map rowS) es eh
  | [], L, s, b, eh, _, fr, hp, hs, _, hn, k => compL_nil trivial (k L s eh fr hp (hs.mono (by simp)) hn (by simp))
  | w :: ws, L, s, b, eh, hl, fr, hp, hs, hb, hn, k => by
    refine compL_cons trivial rfl ?_
    simp only [List.length_cons] at hl hb
    unfold ce__law_made_rows_2
    repeat walk_at "vm"
    refine var_i (x := .str w) (by simp [wipeE, he]) ?_
    repeat walk_at "vm"
    refine var_i (x := .ref a) (by simp [wipeE, h0]) ?_
    repeat walk_at "vm"
    refine draw_fz rfl fr.2 hs (by omega) (by omega) (by omega) fun v s1 h1 h1' hs1 => ?_
    repeat walk_at "vm"
    refine ⟨szl (by simp), fun p hpn => ?_⟩
    have hpa : p ≠ a := fun z => by rw [z, eupd_same] at hpn; cases hpn
    rw [eupd_ne hpa] at hpn
    have hp0 : eh0 p = none := by
      cases e : eh0 p with
      | none => rfl
      | some o => rw [fr.1 p (by simp [e]) hpa, e] at hpn; cases hpn
    have hpL : ∀ t ∈ L, t.p ≠ p := fun t ht z => by have := hp.at_ t ht; rw [z, hpn] at this; cases this
    repeat walk_at "vm"
    refine ⟨szl (by simp), szl (by simp; omega), ?_⟩
    have e1 : L.map rowS ++ [EV.tup [.str w, .int (v - 99), .ref p]] = (L ++ [(⟨⟨w, v - 99, []⟩, p⟩ : RowS)]).map rowS := by simp [rowS]
    rw [e1]
    have hcn : ∀ c, eh0 c ≠ none → c ≠ p := fun c hc z => by rw [z] at hc; exact hc hp0
    refine rows_comp he h0 h0a ws (L ++ [(⟨⟨w, v - 99, []⟩, p⟩ : RowS)]) s1 (b + 1) (eupd (eupd eh a (some (rgO s1))) p (some (.lst []))) (by simp; omega) ⟨fun c hc hca => by rw [eupd_ne (hcn c hc), eupd_ne hca, fr.1 c hc hca], by rw [eupd_ne hpa.symm, eupd_same]⟩ ⟨fun t ht => ?_, ?_, fun t ht => ?_⟩ hs1 (by omega) (fun t ht => ?_) fun L' s' eh' f1 f2 f3 f4 f5 => k L' s' eh' f1 f2 (f3.mono (by simp; omega)) f4 (by rw [f5]; simp)
    · rcases List.mem_append.mp ht with ht | ht
      · rw [eupd_ne (hpL t ht), eupd_ne (hp.new t ht).2]; exact hp.at_ t ht
      · obtain rfl := List.mem_singleton.mp ht; rw [eupd_same]; rfl
    · simp only [List.map_append, List.map_cons, List.map_nil]
      refine List.nodup_append.mpr ⟨hp.nd, by simp, fun x hx y hy z => ?_⟩
      obtain ⟨t, ht, rfl⟩ := List.mem_map.mp hx
      simp at hy; exact hpL t ht (z.trans hy)
    · rcases List.mem_append.mp ht with ht | ht
      · exact hp.new t ht
      · obtain rfl := List.mem_singleton.mp ht; exact ⟨hp0, hpa⟩
    · rcases List.mem_append.mp ht with ht | ht
      · exact hn t ht
      · obtain rfl := List.mem_singleton.mp ht; exact ⟨rfl, by show -99 ≤ v - 99; omega, by show v - 99 ≤ 99; omega⟩

theorem sum_set {α : Type} (f : α → Nat) : ∀ (L : List α) (i : Nat) (t t' : α), L[i]? = some t → ((L.set i t').map f).sum + f t = (L.map f).sum + f t'
  | [], _, _, _, h => by simp at h
  | x :: L, 0, t, t', h => by simp at h; subst h; simp; omega
  | x :: L, i + 1, t, t', h => by
    have := sum_set f L i t t' (by simpa using h)
    simp only [List.set_cons_succ, List.map_cons, List.sum_cons]
    omega
theorem map_set_same {α β : Type} (f : α → β) : ∀ (L : List α) (i : Nat) (t t' : α), L[i]? = some t → f t' = f t → (L.set i t').map f = L.map f
  | [], _, _, _, h, _ => by simp at h
  | x :: L, 0, t, t', h, e => by simp at h; subst h; simp [e]
  | x :: L, i + 1, t, t', h, e => by simp [map_set_same f L i t t' (by simpa using h) e]
theorem mem_set {α : Type} : ∀ {L : List α} {i : Nat} {t' u : α}, u ∈ L.set i t' → u = t' ∨ ∃ j, j ≠ i ∧ L[j]? = some u
  | [], _, _, _, h => by simp at h
  | x :: L, 0, t', u, h => by
    simp at h
    rcases h with h | h
    · exact .inl h
    · obtain ⟨j, hj, e⟩ := List.getElem_of_mem h
      exact .inr ⟨j + 1, by omega, by simp [hj, e]⟩
  | x :: L, i + 1, t', u, h => by
    simp at h
    rcases h with h | h
    · exact .inr ⟨0, by omega, by simp [h]⟩
    · rcases mem_set h with h | ⟨j, hj, e⟩
      · exact .inl h
      · exact .inr ⟨j + 1, by omega, by simpa using e⟩
theorem nodup_at {α : Type} {L : List α} (h : L.Nodup) {i j : Nat} {x : α} (hi : L[i]? = some x) (hj : L[j]? = some x) : i = j := by
  obtain ⟨li, ei⟩ := List.getElem?_eq_some_iff.mp hi
  obtain ⟨lj, ej⟩ := List.getElem?_eq_some_iff.mp hj
  have pw := List.pairwise_iff_getElem.mp h
  rcases Nat.lt_trichotomy i j with hl | hl | hl
  · exact absurd (ei.trans ej.symm) (pw i j li lj hl)
  · exact hl
  · exact absurd (ej.trans ei.symm) (pw j i lj li hl)
theorem le_sum : ∀ {l : List Nat} {x : Nat}, x ∈ l → x ≤ l.sum
  | y :: l, x, h => by
    rcases List.mem_cons.mp h with rfl | h
    · simp
    · have := le_sum h
      simp; omega
theorem turn_loop {xc : XC} {d : Dn} {a : Addr} {eh0 : Eh} {dims many most wide : Int} {ws : List Str} {R : List EV} (h0a : eh0 a ≠ none) (hd0 : 0 ≤ dims) (hd1 : dims ≤ 10) (hw0 : 0 ≤ wide) (hw1 : wide ≤ 1000000) (hm0 : 0 < many) (hm1 : many.toNat = R.length) (hm2 : many.toNat = ws.length) (hm3 : many ≤ 100) :
    ∀ (T : List EV) (L : List RowS) (s : Int × Int × Int) (b : Int) (c : Nat) (z7 z8 z9 z10 z11 : Option EV) (eh : Eh), L.map rowS = R → Fr eh0 a s eh → HpR eh0 a eh L → RgOk b s → b + 40 * T.length ≤ 900000000 → (L.map fun t => t.r.rs.length).sum ≤ c → c + T.length ≤ 100 → (∀ t ∈ L, ∀ x ∈ t.r.rs, RdOk dims wide ws x) →
    (∀ (L' : List RowS) (s' : Int × Int × Int) (eh' : Eh) (z7 z8 z9 z10 z11 : Option EV), L'.map rowS = R → Fr eh0 a s' eh' → HpR eh0 a eh' L' → RgOk (b + 40 * T.length) s' → (L'.map fun t => t.r.rs.length).sum ≤ c + T.length → (∀ t ∈ L', ∀ x ∈ t.r.rs, RdOk dims wide ws x) →
      d.nx [some (.ref a), some (.int dims), some (.int many), some (.int most), some (.int wide), some (.lst (ws.map .str)), some (.lst R), z7, z8, z9, z10, z11] eh') →
    forL (.nm 7) bd__law_made_rows_3 (fun _ => True) xc d T [some (.ref a), some (.int dims), some (.int many), some (.int most), some (.int wide), some (.lst (ws.map .str)), some (.lst R), z7, z8, z9, z10, z11] eh
  | [], L, s, b, c, z7, z8, z9, z10, z11, eh, hR, fr, hp, hs, _, hc, _, hr, k => forL_nil trivial (k L s eh z7 z8 z9 z10 z11 hR fr hp (hs.mono (by simp)) (by simpa using hc) hr)
  | x :: T, L, s, b, c, z7, z8, z9, z10, z11, eh, hR, fr, hp, hs, hb, hc, hcl, hr, k => by
    refine forL_cons trivial rfl ?_
    simp only [List.length_cons] at hb hcl
    unfold bd__law_made_rows_3
    repeat walk_at "vm"
    refine draw_fz rfl fr.2 hs (by omega) (by omega) (by omega) fun v s1 h1 h1' hs1 => ?_
    have hv : v.toNat < L.length := by have := congrArg List.length hR; simp at this; omega
    have hvi : ixN R.length v = some v.toNat := by unfold ixN; rw [if_pos h1, if_pos (by omega)]
    have ht : L[v.toNat]? = some L[v.toNat] := List.getElem?_eq_getElem hv
    generalize htd : L[v.toNat] = t at ht
    have hmem : t ∈ L := List.mem_of_getElem? ht
    refine ix_i (xs := R) (by rfl) (z := rowS t) (by unfold atI; rw [hvi, ← hR]; simp [ht]) ?_
    repeat walk_at "vm"
    refine ⟨_, rfl, ?_⟩
    repeat walk_at "vm"
    refine draw_fz rfl eupd_same hs1 (by omega) (by omega) (by omega) fun v2 s2 h2 h2' hs2 => ?_
    repeat walk_at "vm"
    refine draw_fz rfl eupd_same hs2 (by omega) (by omega) (by omega) fun v3 s3 h3 h3' hs3 => ?_
    repeat walk_at "vm"
    refine ⟨szl (by simp), ?_⟩
    repeat walk_at "vm"
    refine draw_fz rfl eupd_same hs3 (by omega) (by omega) (by omega) fun v4 s4 h4 h4' hs4 => ?_
    have hz : ∃ n, atI [EV.int 1, EV.int (-1), EV.int (1 + v2), EV.int (0 - 1 - v3)] v4 = some (.int n) ∧ n ≠ 0 ∧ -10 ≤ n ∧ n ≤ 10 := by
      have : v4 = 0 ∨ v4 = 1 ∨ v4 = 2 ∨ v4 = 3 := by omega
      rcases this with rfl | rfl | rfl | rfl
      · exact ⟨1, rfl, by omega, by omega, by omega⟩
      · exact ⟨-1, rfl, by omega, by omega, by omega⟩
      · exact ⟨1 + v2, rfl, by omega, by omega, by omega⟩
      · exact ⟨0 - 1 - v3, rfl, by omega, by omega, by omega⟩
    obtain ⟨f, hz, f0⟩ := hz
    refine ix_i (by rfl) hz ?_
    dsimp only
    repeat walk_at "vm"
    have hpt := hp.new t hmem
    refine ⟨⟨t.r.rs.map rdE, by simp only [lstE]; rw [eupd_ne hpt.2, eupd_ne hpt.2, eupd_ne hpt.2, eupd_ne hpt.2, hp.at_ t hmem]⟩, ?_⟩
    repeat walk_at "vm"
    refine draw_fz rfl eupd_same hs4 (by omega) (by omega) (by omega) fun v5 s5 h5 h5' hs5 => ?_
    have hv5 : v5.toNat < ws.length := by omega
    refine ix_i (xs := ws.map .str) (by rfl) (z := .str ws[v5.toNat]) (by unfold atI ixN; rw [if_pos h5, List.length_map, if_pos (by omega)]; simp [hv5]) ?_
    repeat walk_at "vm"
    refine vector_fz rfl eupd_same hs5 (by omega) hd0 hd1 hw0 hw1 fun ns s6 n1 n2 hs6 => ?_
    repeat walk_at "vm"
    refine ⟨szl (by simp), ?_⟩
    rw [eupd_eupd, eupd_eupd, eupd_eupd, eupd_eupd, eupd_eupd]
    have hlen : t.r.rs.length ≤ c := by
      have : t.r.rs.length ≤ (L.map fun t => t.r.rs.length).sum := le_sum (List.mem_map.mpr ⟨t, hmem, rfl⟩)
      omega
    refine ⟨t.r.rs.map rdE, by rw [eupd_ne hpt.2]; exact hp.at_ t hmem, by rw [List.length_map]; exact Nat.lt_of_lt_of_le (show t.r.rs.length < 200 by omega) (by decide), ?_⟩
    have hset : (L.map (·.p))[v.toNat]? = some t.p := by simp [ht]
    let x0 : Rd := ⟨ws[v5.toNat], ns, f⟩
    let t' : RowS := ⟨⟨t.r.w, t.r.n, t.r.rs ++ [x0]⟩, t.p⟩
    have hne : ∀ u ∈ L, ∀ j, j ≠ v.toNat → L[j]? = some u → u.p ≠ t.p := fun u _ j hj e z => hj (nodup_at hp.nd (x := t.p) (by simp [e, z]) hset)
    refine turn_loop h0a hd0 hd1 hw0 hw1 hm0 hm1 hm2 hm3 T (L.set v.toNat t') s6 (b + 40) (c + 1) _ _ _ _ _ (eupd (eupd eh a (some (rgO s6))) t.p (some (.lst (t.r.rs.map rdE ++ [.tup [.str ws[v5.toNat], .tup (ns.map .int), .int f]])))) ?_ ⟨fun y hy hya => ?_, ?_⟩ ⟨fun u hu => ?_, ?_, fun u hu => ?_⟩ (hs6.mono (by omega)) (by omega) ?_ (by omega) (fun u hu y hy => ?_) fun L' s' eh' z7 z8 z9 z10 z11 g1 g2 g3 g4 g5 g6 => k L' s' eh' z7 z8 z9 z10 z11 g1 g2 g3 (g4.mono (by simp; omega)) (by simp; omega) g6
    · rw [map_set_same rowS L _ t t' ht rfl]; exact hR
    · rw [eupd_ne (fun z => by rw [z] at hy; exact hy hpt.1), eupd_ne hya]; exact fr.1 y hy hya
    · rw [eupd_ne hpt.2.symm, eupd_same]
    · rcases mem_set hu with rfl | ⟨j, hj, e⟩
      · rw [eupd_same]; simp [t', x0, rdE]
      · have hu' := List.mem_of_getElem? e
        rw [eupd_ne (hne u hu' j hj e), eupd_ne (hp.new u hu').2]; exact hp.at_ u hu'
    · rw [map_set_same (fun t : RowS => t.p) L _ t t' ht rfl]; exact hp.nd
    · rcases mem_set hu with rfl | ⟨j, hj, e⟩
      · exact hpt
      · exact hp.new u (List.mem_of_getElem? e)
    · have := sum_set (fun t : RowS => t.r.rs.length) L _ t t' ht
      simp [t'] at this ⊢
      omega
    · rcases mem_set hu with rfl | ⟨j, hj, e⟩
      · rcases List.mem_append.mp hy with hy | hy
        · exact hr t hmem y hy
        · obtain rfl := List.mem_singleton.mp hy
          exact ⟨List.getElem_mem hv5, n1, n2, f0⟩
      · exact hr u (List.mem_of_getElem? e) y hy

theorem take_perm {ts : List Str} (h : ts.Perm W0) (m : Nat) : (ts.take m).Nodup ∧ ∀ w ∈ ts.take m, w ∈ W0 :=
  ⟨(h.nodup_iff.mpr (by decide +kernel)).sublist (List.take_sublist _ _), fun w hw => h.mem_iff.mp (List.mem_of_mem_take hw)⟩
theorem rowW_inj : ∀ v ∈ W0, ∀ w ∈ W0, rowW v = rowW w → v = w := by decide +kernel
theorem W0_len : ∀ w ∈ W0, w.length ≤ 100 := by decide +kernel
theorem row_words {ws : List Str} (h : ws.Nodup) (hm : ∀ w ∈ ws, w ∈ W0) : (ws.map rowW).Nodup := by
  rw [List.nodup_iff_pairwise_ne, List.pairwise_map] at *
  exact h.imp_of_mem fun {v w} hv hw hn e => hn (rowW_inj v (hm v hv) w (hm w hw) e)
theorem rowS_key : ∀ (A B : List RowS), A.map rowS = B.map rowS → A.map (·.r.w) = B.map (·.r.w) ∧ A.map (·.r.n) = B.map (·.r.n)
  | [], [], _ => ⟨rfl, rfl⟩
  | [], _ :: _, e => by simp at e
  | _ :: _, [], e => by simp at e
  | x :: A, y :: B, e => by
    simp only [List.map_cons, List.cons.injEq] at e ⊢
    obtain ⟨e1, e2⟩ := rowS_key A B e.2
    have e0 := e.1
    simp [rowS] at e0
    exact ⟨⟨e0.1, e1⟩, e0.2.1, e2⟩
/-- the made rows, their draws counted -/
theorem made_fz {S : Addr → Bool} {xc : XC} {a : Addr} {s : Int × Int × Int} {dims many most wide b : Int} {eh : Eh} {q : KE} (hS : S = nw eh) (h : eh a = some (rgO s)) (hs : RgOk b s) (hb : b + 2000 ≤ 900000000) (hd0 : 0 ≤ dims) (hd1 : dims ≤ 10) (hm0 : 1 ≤ many) (hm1 : many ≤ 6) (ho0 : 0 ≤ most) (ho1 : most ≤ 30) (hw0 : 0 ≤ wide) (hw1 : wide ≤ 1000000)
    (k : ∀ (rows : List Row) (s' : Int × Int × Int), Good dims many most wide rows → RgOk (b + 2000) s' → q (.lst (rows.map rowE)) (eupd eh a (some (rgO s')))) :
    ([EV.ref a, .int dims, .int many, .int most, .int wide] ++ []).length = 5 ∧ FZ S fn__law_made_rows xc ([EV.ref a, .int dims, .int many, .int most, .int wide] ++ []) eh q := by
  refine ⟨rfl, ?_⟩
  subst hS
  have ha : eh a ≠ none := by rw [h]; simp
  unfold FZ fn__law_made_rows ms__law_made_rows
  repeat walk_at "vm"
  refine ⟨szl (by simp), ?_⟩
  repeat walk_at "vm"
  refine mixed_fz (ws := W0) rfl h hs (by omega) (by decide) fun ts s1 hp hs1 => ?_
  repeat walk_at "vm"
  refine ⟨_, rfl, ?_⟩
  refine ⟨ts.map .str, rfl, ?_⟩
  have hmany : many = ((many.toNat : Nat) : Int) := by omega
  rw [hmany, cut_take, ← List.map_take]
  obtain ⟨nd1, mem1⟩ := take_perm hp many.toNat
  have hlen1 : (ts.take many.toNat).length = many.toNat := by
    rw [List.length_take, hp.length_eq]
    show min many.toNat 6 = _
    omega
  generalize ts.take many.toNat = ws at *
  rw [← hmany]
  dsimp only
  repeat walk_at "vm"
  refine draw_fz rfl eupd_same hs1 (by omega) (by omega) (by omega) fun v s2 _ _ hs2 => ?_
  rw [eupd_eupd]
  -- the names, perhaps with "row" ahead
  have main : ∀ (us : List Str) (z8 : Option EV), us.length = many.toNat → us.Nodup → (∀ w ∈ us, w ∈ WORDS) → (sSeq (sSet 6 (mComp (iAny (mVar 5)) (.nm 8) tYesE ce__law_made_rows_2 [8]))
      (sSeq (sFor (iRange1 (aCons (mFz 9 (mCall fn__law_draw 2 [] (aCons (mVar 0) (aCons (mOp oAdd (mVar 3) (mC (.int 1))) aNil)))) aNil)) (.nm 7) bd__law_made_rows_3) (sRet (mVar 6)))) xc
      { nx := fun _ eh_1 => q (fz (nw eh) eh_1 9 .non) (drE (nw eh) eh_1), rt := fun x eh1 => q (fz (nw eh) eh1 9 x) (drE (nw eh) eh1) }
      [some (.ref a), some (.int dims), some (.int many), some (.int most), some (.int wide), some (.lst (us.map .str)), none, none, z8, none, none, none] (eupd eh a (some (rgO s2))) := by
    intro us z8 hul hnd hmem
    repeat walk_at "vm"
    refine ⟨_, _, rfl, ?_⟩
    refine rows_comp (eh0 := eh) (by simp) rfl ha us [] s2 (b + 101) _ (by simp; omega) .one ⟨by simp, by simp, by simp⟩ (hs2.mono (by omega)) (by omega) (by simp) fun L s3 eh3 fr3 hp3 hs3 hn3 hw3 => ?_
    dsimp only
    repeat walk_at "vm"
    refine draw_fz rfl fr3.2 hs3 (by omega) (by omega) (by omega) fun v4 s4 h4 h4' hs4 => ?_
    repeat walk_at "vm"
    refine ⟨_, rfl, by omega, ?_⟩
    have hwL : L.map (·.r.w) = us := by simpa using hw3
    have hLl : L.length = us.length := by rw [← hwL]; simp
    refine turn_loop (dims := dims) (many := many) (most := most) (wide := wide) (eh0 := eh) (c := 0) (b := b + 200) (ws := us) (R := L.map rowS) ha hd0 hd1 hw0 hw1 (by omega) (by simp; omega) (by omega) (by omega) ((List.range v4.toNat).map fun (i : Nat) => EV.int (i : Int)) L s4 none z8 none none none _ rfl (fr3.trans .one) ⟨fun t ht => ?_, hp3.nd, hp3.new⟩ (hs4.mono (by omega)) (by simp; omega) ?_ (by simp; omega) (fun t ht x hx => ?_) fun L' s' eh' z7 z8 z9 z10 z11 hR fr' hp' hs' hc' hr' => ?_
    · rw [eupd_ne (hp3.new t ht).2]; exact hp3.at_ t ht
    · have : ∀ l : List RowS, (∀ t ∈ l, t.r.rs = []) → (l.map fun t => t.r.rs.length).sum = 0 := by
        intro l hl
        induction l with
        | nil => rfl
        | cons y l ih => simp [hl y (by simp), ih fun t ht => hl t (by simp [ht])]
      rw [this L fun t ht => (hn3 t ht).1]; exact Nat.le_refl 0
    · rw [(hn3 t ht).1] at hx; cases hx
    · repeat walk_at "vm"
      dsimp only
      rw [fr'.dr ha, ← hR, fz_rows hp']
      obtain ⟨ew, en⟩ := rowS_key L' L hR
      have ew' : (L'.map (·.r)).map (·.w) = us := by rw [List.map_map, ← hwL, ← ew]; rfl
      refine k (L'.map (·.r)) s' ⟨?_, by rw [ew']; exact hnd, fun r hr => ?_, fun r hr => ?_, ?_, fun r hr x hx => ?_⟩ (hs'.mono (by simp; omega))
      · have := congrArg List.length ew'; simp at this ⊢; omega
      · exact hmem r.w (by rw [← ew']; exact List.mem_map.mpr ⟨r, hr, rfl⟩)
      · obtain ⟨t, ht, rfl⟩ := List.mem_map.mp hr
        have : t.r.n ∈ L.map (·.r.n) := by rw [← en]; exact List.mem_map.mpr ⟨t, ht, rfl⟩
        obtain ⟨u, hu, e⟩ := List.mem_map.mp this
        have := (hn3 u hu).2
        omega
      · rw [List.map_map]
        have : (L'.map fun t => t.r.rs.length).sum ≤ 0 + v4.toNat := by simpa using hc'
        show (((L'.map fun t => t.r.rs.length).sum : Nat) : Int) ≤ most
        omega
      · obtain ⟨t, ht, rfl⟩ := List.mem_map.mp hr
        rw [ew']; exact hr' t ht x hx
  repeat walk_at "vm"
  refine cD_i (fun _ => ?_) (fun _ => ?_)
  · repeat walk_at "vm"
    refine ⟨_, _, rfl, ?_⟩
    refine words_comp (by simp) ws [] (by simp; omega) (fun w hw => W0_len w (mem1 w hw)) ?_
    have e : ([] ++ ws.map fun w => EV.str (rowW w)) = (ws.map rowW).map .str := by simp
    rw [e]
    refine main (ws.map rowW) none (by simpa using hlen1) (row_words nd1 mem1) fun w hw => ?_
    obtain ⟨u, hu, rfl⟩ := List.mem_map.mp hw
    exact List.mem_append_right _ (List.mem_map.mpr ⟨u, mem1 u hu, rfl⟩)
  · repeat walk_at "vm"
    exact main ws none hlen1 nd1 fun w hw => List.mem_append_left _ (mem1 w hw)

/-! ### the source made -/
theorem rng_loop {xc : XC} {d : Dn} {z0 : Option EV} : ∀ (ns : List Int) (x y : Int) (m : Nat) (z3 z4 : Option EV) (eh : Eh), m + ns.length ≤ 63 → 0 ≤ x → x < 2 ^ (200 * m) → 0 ≤ y → y < 2 ^ 62 → (∀ n ∈ ns, Builtin.Int.intBits n ≤ 1048576) →
    (∀ (x' y' : Int) (z3 z4 : Option EV), 0 ≤ x' → 0 ≤ y' → y' < 2 ^ 62 → d.nx [z0, some (.int x'), some (.int y'), z3, z4] eh) →
    forL (.nm 3) bd__law_rng_1 (fun _ => True) xc d (ns.map .int) [z0, some (.int x), some (.int y), z3, z4] eh
  | [], x, y, m, z3, z4, eh, _, hx, _, hy, hy1, _, k => forL_nil trivial (k x y z3 z4 hx hy hy1)
  | n :: ns, x, y, m, z3, z4, eh, hm, hx, hx1, hy, hy1, hb, k => by
    refine forL_cons trivial rfl ?_
    simp only [List.length_cons] at hm
    unfold bd__law_rng_1
    repeat walk_at "vm"
    generalize hf : (if n < 0 then -n else n) = f
    have hf0 : 0 ≤ f := by rw [← hf]; split <;> omega
    have tail : ∀ x', 0 ≤ x' → x' < 2 ^ (200 * (m + 1)) → ∀ eh', eh' = eh → (sSet 2 (mOp oMod (mCB bInt (aCons (mOp oAdd (mOp oAdd (mOp oMul (mVar 2) (mC (.int 1000003))) (mOp oMod (mCB bInt (aCons (mVar 3) aNil)) (mC (.int 2305843009213693921)))) (mC (.int 7))) aNil)) (mC (.int 2305843009213693951)))) xc
        { d with nx := fun es1 eh1 => forL (.nm 3) bd__law_rng_1 (fun _ => True) xc d (ns.map .int) es1 eh1, ct := fun es1 eh1 => forL (.nm 3) bd__law_rng_1 (fun _ => True) xc d (ns.map .int) es1 eh1, bk := d.nx } [z0, some (.int x'), some (.int y), some (.int n), some (.int f)] eh' := by
      intro x' hx' hx1' eh' he
      subst he
      repeat walk_at "vm"
      refine mul_i (.inl (.inr (by constructor <;> decide))) ?_
      repeat walk_at "vm"
      refine mod_i (by decide) ?_
      repeat walk_at "vm"
      refine mod_i (by decide) ?_
      dsimp only
      exact rng_loop ns x' _ (m + 1) _ _ _ (by omega) hx' hx1' (Int.emod_nonneg _ (by decide)) (Int.lt_trans (Int.emod_lt_of_pos _ (by decide)) (by decide)) (fun i hi => hb i (by simp [hi])) k
    refine pow_i (by decide) ?_
    repeat walk_at "vm"
    refine cD_i (fun hfar => ?_) (fun hfar => ?_)
    · repeat walk_at "vm"
      refine pow_i (by decide) ?_
      refine mul_i (.inr ?_) ?_
      · have h1 : Builtin.Int.intBits x ≤ 200 * m := bits_of (by
          have : ((x.natAbs : Nat) : Int) < ((2 ^ (200 * m) : Nat) : Int) := by
            rw [Int.natCast_pow]; rw [Int.natAbs_of_nonneg hx]; exact hx1
          exact Int.ofNat_lt.mp this)
        have h2 : Builtin.Int.intBits ((10 : Int) ^ (60 : Int).toNat) ≤ 200 := by decide +kernel
        omega
      repeat walk_at "vm"
      refine pow_i (by decide) ?_
      refine mod_i (by decide +kernel) ?_
      repeat walk_at "vm"
      dsimp only
      repeat walk_at "vm"
      have e60 : (10 : Int) ^ (60 : Int).toNat < 2 ^ 200 - 1 := by decide +kernel
      have p60 : (0 : Int) < (10 : Int) ^ (60 : Int).toNat := by decide +kernel
      generalize (10 : Int) ^ (60 : Int).toNat = c at *
      have r0 := Int.emod_nonneg f (b := c) (by omega)
      have r1 := Int.emod_lt_of_pos f p60
      refine tail _ (Int.add_nonneg (Int.mul_nonneg hx (by omega)) r0) ?_ _ rfl
      have e1 : (2 : Int) ^ (200 * (m + 1)) = 2 ^ (200 * m) * 2 ^ 200 := by rw [Nat.mul_add, Int.pow_add]
      rw [e1]
      have h3 : x * c ≤ (2 ^ (200 * m) - 1) * c := Int.mul_le_mul_of_nonneg_right (by omega) (by omega)
      have h4 : (2 ^ (200 * m) - 1) * c + c = 2 ^ (200 * m) * c := by rw [Int.sub_mul]; omega
      have h5 : (2 : Int) ^ (200 * m) * c ≤ 2 ^ (200 * m) * 2 ^ 200 := Int.mul_le_mul_of_nonneg_left (by omega) (Int.le_of_lt (Int.pow_pos (by decide)))
      omega
    · repeat walk_at "vm"
      dsimp only
      repeat walk_at "vm"
      refine tail x hx (Int.lt_of_lt_of_le hx1 ?_) _ rfl
      have e1 : (2 : Int) ^ (200 * (m + 1)) = 2 ^ (200 * m) * 2 ^ 200 := by rw [Nat.mul_add, Int.pow_add]
      rw [e1]
      have h5 : (2 : Int) ^ (200 * m) * 1 ≤ 2 ^ (200 * m) * 2 ^ 200 := Int.mul_le_mul_of_nonneg_left (by decide) (Int.le_of_lt (Int.pow_pos (by decide)))
      omega
theorem rng_ok {xc : XC} {ns : List Int} {eh : Eh} {q : KE} (hl : ns.length ≤ 63) (hb : ∀ n ∈ ns, Builtin.Int.intBits n ≤ 1048576) (k : ∀ p s, eh p = none → RgOk 0 s → q (.ref p) (eupd eh p (some (rgO s)))) : fn__law_rng xc [.scr ns] eh q := by
  unfold fn__law_rng ms__law_rng
  repeat walk_at "vm"
  refine ⟨szl (by simp), ?_⟩
  refine ⟨_, rfl, ?_⟩
  repeat walk_at "vm"
  refine ⟨_, rfl, ?_⟩
  refine ⟨ns.map .int, rfl, ?_⟩
  have e : cutE (ns.map EV.int) none (some 63) = ns.map .int := by
    have := cut_take (xs := ns.map EV.int) (k := 63)
    exact this.trans (List.take_of_length_le (by simpa using hl))
  rw [e]
  refine ⟨_, _, rfl, ?_⟩
  refine rng_loop ns 0 88675123 0 _ _ _ (by omega) (by decide) (by decide) (by decide) (by decide) hb fun x y z3 z4 hx hy hy1 => ?_
  dsimp only
  repeat walk_at "vm"
  refine ⟨szl (by simp), fun p hp => ?_⟩
  exact k p (x, y, 0) hp ⟨hx, hy, hy1, Int.le_refl _, Int.le_refl _⟩

/-! ### names, reads -/
def letters : Str := "abcdefghijklmnopqrstuvwxyz"
def inL (c : Nat) : Bool := !(Builtin.Str.occurrences letters ⟨#[c]⟩ 0 letters.length 1).isEmpty
def nameOk (w : Str) : Bool := decide (1 ≤ w.length) && (decide (w.length ≤ 8) && w.cps.toList.all inL)
theorem boolsE_map : ∀ bs : List Bool, boolsE (bs.map .bl) = some bs
  | [] => rfl
  | b :: bs => by simp [boolsE, boolsE_map bs]
theorem all_i {x : EV} {eh : Eh} {q : KE} {bs : List Bool} (e : lstE eh x = some (bs.map .bl)) (h : q (.bl (bs.all id)) eh) : bAll [x] eh q := ⟨_, _, e, boolsE_map bs, h⟩
theorem name_comp {es : Es} {q : KE} {eh : Eh} (he : 1 < es.length) : ∀ (cs : List Nat) (bs : List Bool), bs.length + cs.length ≤ 100 → q (.lst ((bs ++ cs.map inL).map .bl)) eh →
    compL (.nm 1) tYesE ce_is_name_1 [1] (fun _ => True) q (cs.map fun c => EV.str ⟨#[c]⟩) (bs.map .bl) es eh
  | [], bs, _, k => compL_nil trivial (by simpa using k)
  | c :: cs, bs, hl, k => by
    simp only [List.length_cons] at hl
    refine compL_cons trivial rfl ?_
    unfold ce_is_name_1
    repeat walk_at "vm"
    refine var_i (x := .str ⟨#[c]⟩) (by simp [wipeE, he]) ?_
    repeat walk_at "vm"
    show (List.map EV.bl bs).length < sizeLine ∧ compL (.nm 1) tYesE ce_is_name_1 [1] (fun _ => True) q (cs.map fun c => EV.str ⟨#[c]⟩) (bs.map .bl ++ [.bl (false ^^ inL c)]) es eh
    refine ⟨Nat.lt_of_lt_of_le (by rw [List.length_map]; exact (show bs.length < 200 by omega)) (by decide), ?_⟩
    have e : bs.map EV.bl ++ [.bl (false ^^ inL c)] = (bs ++ [inL c]).map .bl := by simp
    rw [e]
    exact name_comp he cs (bs ++ [inL c]) (by simp; omega) (by simpa using k)
theorem name_ok {xc : XC} {w : Str} {eh : Eh} {q : KE} (h : nameOk w = true) (k : q (.bl true) eh) : fn_is_name xc [.str w] eh q := by
  unfold nameOk at h
  simp only [Bool.and_eq_true, decide_eq_true_eq] at h
  obtain ⟨h1, h2, h3⟩ := h
  unfold fn_is_name ms_is_name
  repeat walk_at "vm"
  refine lenS_i (szl (by omega)) ?_
  repeat walk_at "vm"
  refine cD_i (fun _ => ?_) (fun z => absurd (show (1 : Int) ≤ (w.length : Int) by omega) z)
  repeat walk_at "vm"
  refine cD_i (fun _ => ?_) (fun z => absurd (show (w.length : Int) ≤ 8 by omega) z)
  repeat walk_at "vm"
  refine ⟨_, _, rfl, ?_⟩
  have hcl : w.cps.toList.length ≤ 100 := by
    have : w.cps.toList.length = w.length := by rw [Array.length_toList]; rfl
    omega
  refine name_comp (by simp) w.cps.toList [] (by simpa using hcl) ?_
  repeat walk_at "vm"
  refine all_i (bs := [] ++ w.cps.toList.map inL) rfl ?_
  have e : ([] ++ w.cps.toList.map inL).all id = true := by simpa using h3
  rw [e]; exact k
theorem name_fz {S : Addr → Bool} {xc : XC} {w : Str} {eh : Eh} {q : KE} (hS : S = nw eh) (h : nameOk w = true) (k : q (.bl true) eh) : ([EV.str w] ++ []).length = 1 ∧ FZ S fn_is_name xc ([EV.str w] ++ []) eh q :=
  ⟨rfl, name_ok h (by rw [hS, drE_self]; exact k)⟩
structure RdFit (dims : Int) (x : Rd) : Prop where
  t : nameOk x.t = true
  l : (x.v.length : Int) = dims
  f : x.f ≠ 0
theorem read_fz {S : Addr → Bool} {xc : XC} {x : Rd} {dims : Int} {eh : Eh} {q : KE} (hS : S = nw eh) (h : RdFit dims x) (k : q (.bl true) eh) : ([rdE x, EV.int dims] ++ []).length = 2 ∧ FZ S fn_is_read xc ([rdE x, EV.int dims] ++ []) eh q := by
  refine ⟨rfl, ?_⟩
  subst hS
  unfold FZ fn_is_read ms_is_read
  repeat walk_at "vm"
  refine ⟨_, rfl, ?_⟩
  repeat walk_at "vm"
  refine name_fz rfl h.t ?_
  repeat walk_at "vm"
  refine len_i (xs := x.v.map .int) rfl ?_
  repeat walk_at "vm"
  refine cD_i (fun _ => ?_) (fun z => absurd (by rw [List.length_map]; exact h.l) z)
  repeat walk_at "vm"
  have e : (!decide (x.f = 0)) = true := by simp [h.f]
  rw [e]
  dsimp only
  rw [drE_self]
  exact k

/-! ### systems checked -/
theorem inD_i {x y : EV} {eh : Eh} {q : KE} {kvs : List (Key × EV)} {k : Key} (hy : ∀ z, y ≠ .str z) (e : dctE eh y = some kvs) (ek : keyE x = some k) (h : q (.bl (getK kvs k).isSome) eh) : cIn false x y eh q := by
  unfold cIn
  split
  · exact absurd rfl (hy _)
  · exact .inr ⟨kvs, k, e, ek, by simpa using h⟩
theorem ninD_i {x y : EV} {eh : Eh} {q : KE} {kvs : List (Key × EV)} {k : Key} (hy : ∀ z, y ≠ .str z) (e : dctE eh y = some kvs) (ek : keyE x = some k) (h : q (.bl (!(getK kvs k).isSome)) eh) : cIn true x y eh q := by
  unfold cIn
  split
  · exact absurd rfl (hy _)
  · exact .inr ⟨kvs, k, e, ek, by simpa using h⟩
def foundE (ws : List Str) : List (Key × EV) := ws.map fun w => (.inr w, .bl true)
theorem getK_found : ∀ (ws : List Str) (w : Str), (getK (foundE ws) (.inr w)).isSome = decide (w ∈ ws)
  | [], w => rfl
  | v :: ws, w => by
    show (if (Sum.inr v : Key) = .inr w then some (EV.bl true) else getK (foundE ws) (.inr w)).isSome = _
    by_cases h : v = w
    · subst h; simp
    · have h' : w ≠ v := fun z => h z.symm
      rw [if_neg (fun z => h (Sum.inr.inj z)), getK_found ws w]; simp [h']
theorem put_found {ws : List Str} {w : Str} (h : w ∉ ws) : putKE (foundE ws) (.inr w) (.bl true) = foundE (ws ++ [w]) := by
  unfold putKE
  rw [if_neg]
  · simp [foundE]
  · simp only [foundE, List.any_map, List.any_eq_true, Function.comp, decide_eq_true_eq, not_exists, not_and]
    intro v hv e
    exact h (Sum.inr.inj e ▸ hv)
theorem reads_comp {es : Es} {q : KE} {eh : Eh} {dims : Int} (he : 13 < es.length) (h0 : es[0]? = some (some (.int dims))) : ∀ (rs : List Rd) (bs : List Bool), bs.length + rs.length ≤ 100 → (∀ x ∈ rs, RdFit dims x) → q (.lst ((bs ++ rs.map fun _ => true).map .bl)) eh →
    compL (.nm 13) tYesE ce_check_system_1 [13] (fun _ => True) q (rs.map rdE) (bs.map .bl) es eh
  | [], bs, _, _, k => compL_nil trivial (by simpa using k)
  | x :: rs, bs, hl, hx, k => by
    simp only [List.length_cons] at hl
    refine compL_cons trivial rfl ?_
    unfold ce_check_system_1
    repeat walk_at "vm"
    refine var_i (x := rdE x) (by simp [wipeE, he]) ?_
    repeat walk_at "vm"
    refine var_i (x := .int dims) (by simp [wipeE, h0]) ?_
    repeat walk_at "vm"
    refine read_fz rfl (hx x (by simp)) ?_
    refine ⟨Nat.lt_of_lt_of_le (by rw [List.length_map]; exact (show bs.length < 200 by omega)) (by decide), ?_⟩
    have e : bs.map EV.bl ++ [.bl true] = (bs ++ [true]).map .bl := by simp
    rw [e]
    exact reads_comp he h0 rs (bs ++ [true]) (by simp; omega) (fun y hy => hx y (by simp [hy])) (by simpa using k)
theorem all_true {α : Type} : ∀ rs : List α, (([] : List Bool) ++ rs.map fun _ => true).all id = true
  | [] => rfl
  | _ :: rs => by simpa using all_true rs
structure RowFit (dims : Int) (r : Row) : Prop where
  w : nameOk r.w = true
  rd : ∀ x ∈ r.rs, RdFit dims x
theorem check1 {xc : XC} {d : Dn} {p : Addr} {dims md : Int} {T : EV} {ok : Eh → Prop} (hok : ∀ eh v, ok eh → ok (eupd eh p v)) : ∀ (rows : List Row) (g : Nat → Int) (ws : List Str) (many : Nat) (z5 z6 z7 z8 z9 z10 z11 z12 z13 : Option EV) (eh : Eh), ok eh → (∀ r ∈ rows, RowFit dims r) → (ws ++ rows.map (·.w)).Nodup → ws.length + rows.length ≤ 100 → many + (rows.map fun r => r.rs.length).sum ≤ 12 → eh p = some (.dct (foundE ws)) →
    (∀ (many : Int) (z5 z6 z7 z8 z9 z10 z11 z12 z13 : Option EV), d.nx [some (.int dims), some T, some (.int md), some (.ref p), some (.int many), z5, z6, z7, z8, z9, z10, z11, z12, z13] (eupd eh p (some (.dct (foundE (ws ++ rows.map (·.w))))))) →
    forL (.tp [.nm 5, .tp [.nm 6, .nm 7, .nm 8]]) bd_check_system_2 ok xc d ((rows.map rowE).mapIdx fun i x => .tup [.int (g i), x]) [some (.int dims), some T, some (.int md), some (.ref p), some (.int many), z5, z6, z7, z8, z9, z10, z11, z12, z13] eh
  | [], g, ws, many, z5, z6, z7, z8, z9, z10, z11, z12, z13, eh, ho, _, _, _, _, hp, k => by
    refine forL_nil ho ?_
    have := k many z5 z6 z7 z8 z9 z10 z11 z12 z13
    simp only [List.map_nil, List.append_nil] at this
    rwa [eupd_self hp] at this
  | r :: rows, g, ws, many, z5, z6, z7, z8, z9, z10, z11, z12, z13, eh, ho, hf, hn, hl, hm, hp, k => by
    simp only [List.map_cons, List.sum_cons, List.length_cons] at hm hl
    rw [List.map_cons, List.mapIdx_cons]
    refine forL_cons ho rfl ?_
    have hr := hf r (by simp)
    have hnw : r.w ∉ ws := fun z => by
      rw [List.map_cons] at hn
      exact (List.nodup_append.mp hn).2.2 r.w z r.w (by simp) rfl
    unfold bd_check_system_2
    repeat walk_at "vm"
    refine len_i (xs := r.rs.map rdE) rfl ?_
    rw [List.length_map]
    repeat walk_at "vm"
    dsimp only
    repeat walk_at "vm"
    refine name_fz rfl hr.w ?_
    repeat walk_at "vm"
    refine cF_i ?_
    repeat walk_at "vm"
    refine inD_i (kvs := foundE ws) (by simp) (by simp only [dctE, hp]) rfl ?_
    rw [getK_found]
    repeat walk_at "vm"
    refine cD_i (fun z => absurd z hnw) (fun _ => ?_)
    repeat walk_at "vm"
    refine ⟨_, rfl, ?_⟩
    refine cD_i (fun z => absurd z (show ¬ (12 : Int) < (many : Int) + (r.rs.length : Int) by omega)) (fun _ => ?_)
    repeat walk_at "vm"
    refine ⟨_, _, rfl, ?_⟩
    refine reads_comp (dims := dims) (by simp) rfl r.rs [] (by simp; omega) hr.rd ?_
    repeat walk_at "vm"
    refine all_i (bs := [] ++ r.rs.map fun _ => true) rfl ?_
    rw [all_true]
    refine ⟨_, rfl, ?_⟩
    refine cF_i ?_
    repeat walk_at "vm"
    dsimp only
    repeat walk_at "vm"
    refine ⟨_, _, _, rfl, hp, rfl, ?_, ?_⟩
    · rw [show (foundE ws).length = ws.length by simp [foundE]]
      exact Nat.lt_of_lt_of_le (show ws.length < 200 by omega) (by decide)
    rw [put_found hnw]
    refine check1 hok rows (fun i => g (i + 1)) (ws ++ [r.w]) (many + r.rs.length) _ _ _ _ _ _ _ _ _ _ (hok _ _ ho) (fun y hy => hf y (by simp [hy])) (by simpa using hn) (by simp; omega) (by omega) eupd_same fun m z5 z6 z7 z8 z9 z10 z11 z12 z13 => ?_
    rw [eupd_eupd]
    simpa using k m z5 z6 z7 z8 z9 z10 z11 z12 z13

theorem found_comp {es : Es} {q : KE} {eh : Eh} {p : Addr} {ws : List Str} (he : 12 < es.length) (h3 : es[3]? = some (some (.ref p))) (hp : eh p = some (.dct (foundE ws))) : ∀ (rs : List Rd) (bs : List Bool), bs.length + rs.length ≤ 100 → (∀ x ∈ rs, x.t ∈ ws) → q (.lst ((bs ++ rs.map fun _ => true).map .bl)) eh →
    compL (.tp [.nm 10, .nm 11, .nm 12]) tYesE ce_check_system_3 [10, 11, 12] (fun _ => True) q (rs.map rdE) (bs.map .bl) es eh
  | [], bs, _, _, k => compL_nil trivial (by simpa using k)
  | x :: rs, bs, hl, hx, k => by
    simp only [List.length_cons] at hl
    refine compL_cons trivial rfl ?_
    unfold ce_check_system_3
    repeat walk_at "vm"
    refine var_i (x := .str x.t) (by simp [wipeE, Nat.lt_trans (show 10 < 12 by decide) he]) ?_
    refine var_i (x := .ref p) (by simp [wipeE, h3]) ?_
    refine inD_i (kvs := foundE ws) (by simp) (by simp only [dctE, hp]) rfl ?_
    rw [getK_found]
    have ht : decide (x.t ∈ ws) = true := by simp [hx x (by simp)]
    rw [ht]
    refine ⟨Nat.lt_of_lt_of_le (by rw [List.length_map]; exact (show bs.length < 200 by omega)) (by decide), ?_⟩
    have e : bs.map EV.bl ++ [.bl true] = (bs ++ [true]).map .bl := by simp
    rw [e]
    exact found_comp he h3 hp rs (bs ++ [true]) (by simp; omega) (fun y hy => hx y (by simp [hy])) (by simpa using k)
theorem check2 {xc : XC} {d : Dn} {p : Addr} {dims md many : Int} {T : EV} {ok : Eh → Prop} {ws : List Str} {eh : Eh} (ho : ok eh) (hp : eh p = some (.dct (foundE ws))) : ∀ (rows : List Row) (g : Nat → Int) (z5 z6 z7 z8 z9 z10 z11 z12 z13 : Option EV), (∀ r ∈ rows, r.rs.length ≤ 90 ∧ ∀ x ∈ r.rs, x.t ∈ ws) →
    (∀ (z5 z6 z7 z8 z9 z10 z11 z12 z13 : Option EV), d.nx [some (.int dims), some T, some (.int md), some (.ref p), some (.int many), z5, z6, z7, z8, z9, z10, z11, z12, z13] eh) →
    forL (.tp [.nm 5, .tp [.nm 6, .nm 7, .nm 8]]) bd_check_system_4 ok xc d ((rows.map rowE).mapIdx fun i x => .tup [.int (g i), x]) [some (.int dims), some T, some (.int md), some (.ref p), some (.int many), z5, z6, z7, z8, z9, z10, z11, z12, z13] eh
  | [], g, z5, z6, z7, z8, z9, z10, z11, z12, z13, _, k => forL_nil ho (k z5 z6 z7 z8 z9 z10 z11 z12 z13)
  | r :: rows, g, z5, z6, z7, z8, z9, z10, z11, z12, z13, hf, k => by
    rw [List.map_cons, List.mapIdx_cons]
    refine forL_cons ho rfl ?_
    obtain ⟨hl, hr⟩ := hf r (by simp)
    unfold bd_check_system_4
    repeat walk_at "vm"
    refine ⟨_, _, rfl, ?_⟩
    refine found_comp (ws := ws) (by simp) rfl hp r.rs [] (by simp; omega) hr ?_
    repeat walk_at "vm"
    refine all_i (bs := [] ++ r.rs.map fun _ => true) rfl ?_
    rw [all_true]
    refine ⟨_, rfl, ?_⟩
    refine cF_i ?_
    repeat walk_at "vm"
    exact check2 ho hp rows (fun i => g (i + 1)) _ _ _ _ _ _ _ _ _ (fun y hy => hf y (by simp [hy])) k
structure SysFit (dims md : Int) (rows : List Row) : Prop where
  d : 1 ≤ dims ∧ dims ≤ 3
  l : 1 ≤ rows.length ∧ rows.length ≤ 6
  nd : (rows.map (·.w)).Nodup
  r : ∀ r ∈ rows, RowFit dims r
  t : (rows.map fun r => r.rs.length).sum ≤ 12
  m : 2 ≤ md
  tg : ∀ r ∈ rows, ∀ x ∈ r.rs, x.t ∈ rows.map (·.w)
theorem check_fz {S : Addr → Bool} {xc : XC} {dims md : Int} {rows : List Row} {eh : Eh} {q : KE} (hS : S = nw eh) (h : SysFit dims md rows) (k : q .non eh) : ([EV.int dims, .lst (rows.map rowE), .int md] ++ []).length = 3 ∧ FZ S fn_check_system xc ([EV.int dims, .lst (rows.map rowE), .int md] ++ []) eh q := by
  refine ⟨rfl, ?_⟩
  subst hS
  obtain ⟨d1, d2⟩ := h.d
  obtain ⟨l1, l2⟩ := h.l
  unfold FZ fn_check_system ms_check_system
  repeat walk_at "vm"
  refine cD_i (fun _ => ?_) (fun z => absurd d1 z)
  repeat walk_at "vm"
  have e2 : (!decide (dims ≤ 3)) = false := by simp [d2]
  rw [e2]
  repeat walk_at "vm"
  refine len_i (xs := rows.map rowE) rfl ?_
  rw [List.length_map]
  repeat walk_at "vm"
  refine cD_i (fun _ => ?_) (fun z => absurd (show (1 : Int) ≤ (rows.length : Int) by omega) z)
  repeat walk_at "vm"
  have e3 : (!decide ((rows.length : Int) ≤ 6)) = false := by simp; omega
  rw [e3]
  repeat walk_at "vm"
  intro p hp
  repeat walk_at "vm"
  refine ⟨szl (by simp), _, rfl, ?_⟩
  repeat walk_at "vm"
  refine ⟨_, _, _, rfl, rfl, ?_⟩
  refine check1 (md := md) (fun _ _ _ => trivial) rows (fun i => (i : Int)) [] 0 _ _ _ _ _ _ _ _ _ _ trivial h.r (by simpa using h.nd) (by simp; omega) (by simpa using h.t) eupd_same fun many z5 z6 z7 z8 z9 z10 z11 z12 z13 => ?_
  rw [eupd_eupd]
  repeat walk_at "vm"
  refine ⟨_, _, _, rfl, rfl, ?_⟩
  refine check2 (ws := [] ++ rows.map (·.w)) (md := md) trivial eupd_same rows (fun i => (i : Int)) z5 z6 z7 z8 z9 z10 z11 z12 z13 (fun r hr => ⟨?_, by simpa using h.tg r hr⟩) fun z5 z6 z7 z8 z9 z10 z11 z12 z13 => ?_
  · have : r.rs.length ≤ (rows.map fun r => r.rs.length).sum := le_sum (List.mem_map.mpr ⟨r, hr, rfl⟩)
    have := h.t
    omega
  repeat walk_at "vm"
  refine cD_i (fun z => absurd h.m (by omega)) (fun _ => ?_)
  repeat walk_at "vm"
  dsimp only
  have e : drE (nw eh) (eupd eh p (some (.dct (foundE ([] ++ rows.map (·.w)))))) = eh := by
    funext c
    unfold drE nw eupd
    by_cases hc : c = p
    · subst hc; simp [hp]
    · cases e : eh c <;> simp [hc, e]
  rw [e]
  exact k

/-! ### systems made -/
def sortR (rows : List Row) : List Row := rows.mergeSort fun r r' => PySem.W.dataLe false key0 (rowE r) (rowE r')
theorem sortR_map (rows : List Row) : sortK0 (rows.map rowE) = (sortR rows).map rowE := by
  unfold sortK0 sortR
  exact (PySem.W.sort_maps (s := PySem.W.dataLe false key0) rowE fun _ _ _ _ => rfl).symm
theorem sortR_perm (rows : List Row) : (sortR rows).Perm rows := List.mergeSort_perm _ _
def tabV (r : Row) : EV := .tup [.int r.n, .tup (r.rs.map rdE)]
def tabE (rs : List Row) : List (Key × EV) := rs.map fun r => (.inr r.w, tabV r)
def namR (r : Row) : List EV := (List.range r.rs.length).map fun (i : Nat) => .tup [.str r.w, .int (i : Int)]
def namE (rs : List Row) : List EV := rs.flatMap namR
def sysE (dims md : Int) (rs : List Row) : EV := .obj "System" [("dimension_count", .int dims), ("kept_modulus", .int md), ("kept_tables", .dct (tabE rs)), ("named_reads", .tup (namE rs))]
theorem fz_tabV {S : Addr → Bool} {eh : Eh} {k : Nat} (r : Row) : fz S eh (k + 4) (tabV r) = tabV r := by
  show EV.tup [fz S eh (k + 3) (.int r.n), .tup ((r.rs.map rdE).map (fz S eh (k + 2)))] = _
  rw [fz_rds]; rfl
theorem fz_tab {S : Addr → Bool} {eh : Eh} {k : Nat} (rs : List Row) : ((tabE rs).map fun p => (p.1, fz S eh (k + 4) p.2)) = tabE rs := by
  unfold tabE
  rw [List.map_map]
  exact List.map_congr_left fun r _ => by show (Sum.inr r.w, fz S eh (k + 4) (tabV r)) = _; rw [fz_tabV]
theorem fz_nam {S : Addr → Bool} {eh : Eh} {k : Nat} (rs : List Row) : (namE rs).map (fz S eh (k + 2)) = namE rs := by
  unfold namE
  rw [List.map_flatMap]
  congr 1
  funext r
  unfold namR
  rw [List.map_map]
  exact List.map_congr_left fun _ _ => rfl
theorem put_tab {rs : List Row} {r : Row} (h : r.w ∉ rs.map (·.w)) : putKE (tabE rs) (.inr r.w) (tabV r) = tabE (rs ++ [r]) := by
  unfold putKE
  rw [if_neg]
  · simp [tabE]
  · simp only [tabE, List.any_map, List.any_eq_true, Function.comp, decide_eq_true_eq, not_exists, not_and]
    intro v hv e
    exact h (List.mem_map.mpr ⟨v, hv, Sum.inr.inj e⟩)
def fs3 (dims md : Int) (t : EV) : List (Str × EV) := [("dimension_count", .int dims), ("kept_modulus", .int md), ("kept_tables", t)]
theorem init_loop {xc : XC} {d : Dn} {p t : Addr} {dims md : Int} {T : EV} (hpt : t ≠ p) : ∀ (rs done : List Row) (z4 z5 z6 z7 : Option EV) (eh : Eh), (done.map (·.w) ++ rs.map (·.w)).Nodup → done.length + rs.length ≤ 100 → eh p = some (.ins "System" (fs3 dims md (.ref t))) → eh t = some (.dct (tabE done)) →
    (∀ z4 z5 z6 z7 : Option EV, d.nx [some (.ref p), some (.int dims), some T, some (.int md), z4, z5, z6, z7] (eupd eh t (some (.dct (tabE (done ++ rs)))))) →
    forL (.tp [.nm 4, .nm 5, .nm 6]) bd_System_init_1 (fun _ => True) xc d (rs.map rowE) [some (.ref p), some (.int dims), some T, some (.int md), z4, z5, z6, z7] eh
  | [], done, z4, z5, z6, z7, eh, _, _, _, ht, k => by
    have := k z4 z5 z6 z7
    rw [List.append_nil, eupd_self ht] at this
    exact forL_nil trivial this
  | r :: rs, done, z4, z5, z6, z7, eh, hn, hl, hp, ht, k => by
    refine forL_cons trivial rfl ?_
    simp only [List.length_cons] at hl
    have hnw : r.w ∉ done.map (·.w) := fun z => by
      rw [List.map_cons] at hn
      exact (List.nodup_append.mp hn).2.2 r.w z r.w (by simp) rfl
    unfold bd_System_init_1
    repeat walk_at "vm"
    refine tuple_i (xs := r.rs.map rdE) rfl ?_
    refine ⟨szl (by simp), ?_⟩
    repeat walk_at "vm"
    refine ⟨_, .ref t, by simp only [insE, hp]; rfl, by rfl, ?_⟩
    repeat walk_at "vm"
    refine ⟨_, _, _, rfl, ht, rfl, ?_, ?_⟩
    · rw [show (tabE done).length = done.length by simp [tabE]]
      exact Nat.lt_of_lt_of_le (show done.length < 200 by omega) (by decide)
    have e := put_tab hnw
    unfold tabV at e
    rw [e]
    refine init_loop hpt rs (done ++ [r]) _ _ _ _ _ (by simpa using hn) (by simp; omega) (by rw [eupd_ne hpt.symm]; exact hp) eupd_same fun z4 z5 z6 z7 => ?_
    rw [eupd_eupd]
    simpa using k z4 z5 z6 z7
theorem nam_in {es : Es} {eh : Eh} {r : Row} {k : List EV → Eh → Prop} (h7 : 7 < es.length) (h4 : es[4]? = some (some (.str r.w))) (hk : ∀ acc, k acc eh → True) : ∀ (is : List Nat) (acc : List EV), acc.length + is.length ≤ 200 → k (acc ++ is.map fun (i : Nat) => EV.tup [.str r.w, .int (i : Int)]) eh →
    comp2In (.nm 7) tYesE ce_System_init_2 [7] (fun _ => True) k (is.map fun (i : Nat) => .int (i : Int)) acc es eh
  | [], acc, _, h => ⟨trivial, by simpa using h⟩
  | i :: is, acc, hl, h => by
    simp only [List.length_cons] at hl
    refine ⟨trivial, _, rfl, ?_⟩
    show ce_System_init_2 xF _ eh _
    unfold ce_System_init_2
    repeat walk_at "vm"
    refine var_i (x := .str r.w) (by simp [wipeE, h4]) ?_
    repeat walk_at "vm"
    refine var_i (x := .int i) (by simp [wipeE, h7]) ?_
    repeat walk_at "vm"
    refine ⟨szl (by simp), Nat.lt_of_lt_of_le (show acc.length < 300 by omega) (by decide), ?_⟩
    exact nam_in h7 h4 hk is _ (by simp; omega) (by simpa using h)

theorem nam_out {p : Addr} {A B C : EV} {z4 z5 z6 z7 : Option EV} {q : KE} {eh : Eh} : ∀ (rs : List Row) (acc : List EV), acc.length + (rs.map fun r => r.rs.length).sum ≤ 100 → q (.lst (acc ++ namE rs)) eh →
    comp2L (.tp [.nm 4, .tp [.nm 5, .nm 6]]) tYesE (iRange1 (aCons (mCB bLen (aCons (mVar 6) aNil)) aNil)) (.nm 7) tYesE ce_System_init_2 [4, 5, 6, 7] [7] (fun _ => True) q ((tabE rs).map fun p => .tup [keyV p.1, p.2]) acc [some (.ref p), some A, some B, some C, z4, z5, z6, z7] eh
  | [], acc, _, k => ⟨trivial, by simpa [namE] using k⟩
  | r :: rs, acc, hl, k => by
    simp only [List.map_cons, List.sum_cons] at hl
    refine ⟨trivial, _, rfl, ?_⟩
    refine tyes_i ?_
    show iRange1 _ xF _ eh _
    repeat walk_at "vm"
    refine len_i (xs := r.rs.map rdE) rfl ?_
    rw [List.length_map]
    repeat walk_at "vm"
    refine ⟨_, rfl, by omega, ?_⟩
    rw [Int.toNat_natCast]
    refine nam_in (r := r) (by simp [wipeE]) rfl (fun _ _ => trivial) (List.range r.rs.length) acc (by simp; omega) ?_
    refine nam_out rs _ (by simp; omega) ?_
    simpa [namE, namR] using k
theorem fz_dct {S : Addr → Bool} {eh : Eh} {k : Nat} {a : Addr} {kvs : List (Key × EV)} (h : S a = true) (e : eh a = some (.dct kvs)) : fz S eh (k + 1) (.ref a) = .dct (kvs.map fun p => (p.1, fz S eh k p.2)) := by simp only [fz, h, e, if_true]
theorem fz_ins {S : Addr → Bool} {eh : Eh} {k : Nat} {a : Addr} {C : Str} {fs : List (Str × EV)} (h : S a = true) (e : eh a = some (.ins C fs)) : fz S eh (k + 1) (.ref a) = .obj C (fs.map fun p => (p.1, fz S eh k p.2)) := by simp only [fz, h, e, if_true]
theorem fz_dctT {S : Addr → Bool} {eh : Eh} {k : Nat} {rs : List Row} : fz S eh (k + 5) (.dct (tabE rs)) = .dct (tabE rs) := congrArg EV.dct (fz_tab (k := k) rs)
theorem fz_tupN {S : Addr → Bool} {eh : Eh} {k : Nat} {rs : List Row} : fz S eh (k + 3) (.tup (namE rs)) = .tup (namE rs) := congrArg EV.tup (fz_nam (k := k) rs)
theorem fz_int {S : Addr → Bool} {eh : Eh} {k : Nat} {i : Int} : fz S eh k (.int i) = .int i := by cases k <;> rfl
theorem sum_perm {f : Row → Nat} {xs ys : List Row} (h : xs.Perm ys) : (xs.map f).sum = (ys.map f).sum := (h.map f).sum_nat
theorem init_mz {S : Addr → Bool} {xc : XC} {dims md : Int} {rows : List Row} {eh : Eh} {q : KE} (hS : S = nw eh) (h : SysFit dims md rows) (k : q (sysE dims md (sortR rows)) eh) :
    MZ S "System" fn_System_init xc [.int dims, .lst (rows.map rowE), .int md] eh q := by
  subst hS
  intro p hp
  have hperm := sortR_perm rows
  unfold fn_System_init ms_System_init
  repeat walk_at "vm"
  refine check_fz rfl h ?_
  repeat walk_at "vm"
  refine ⟨p, [], rfl, eupd_same, by simp, ?_⟩
  repeat walk_at "vm"
  refine ⟨p, _, rfl, eupd_same, by simp [putE], ?_⟩
  rw [eupd_eupd, eupd_eupd]
  repeat walk_at "vm"
  intro t ht
  have hpt : t ≠ p := fun z => by rw [z, eupd_same] at ht; cases ht
  have ht0 : eh t = none := by rw [eupd_ne hpt] at ht; exact ht
  repeat walk_at "vm"
  have e2 : putE "kept_modulus" (.int md) (putE "dimension_count" (.int dims) []) = ([("dimension_count", EV.int dims), ("kept_modulus", EV.int md)] : List (Str × EV)) := by rfl
  refine ⟨p, _, rfl, by rw [eupd_ne hpt.symm, eupd_same], by rw [e2]; exact (show 2 < 1000 by decide), ?_⟩
  have e3 : putE "kept_tables" (.ref t) (putE "kept_modulus" (.int md) (putE "dimension_count" (.int dims) [])) = fs3 dims md (.ref t) := by rfl
  rw [e3]
  repeat walk_at "vm"
  refine ⟨_, rfl, List.all_eq_true.mpr fun x hx => by obtain ⟨r, _, rfl⟩ := List.mem_map.mp hx; rfl, ?_⟩
  refine ⟨_, _, rfl, ?_⟩
  rw [sortR_map]
  refine init_loop hpt (sortR rows) [] _ _ _ _ _ (by simpa using (hperm.map (·.w)).nodup_iff.mpr h.nd) (by have := h.l; simp [hperm.length_eq]; omega) eupd_same (by rw [eupd_ne hpt, eupd_same]; rfl) fun z4 z5 z6 z7 => ?_
  simp only [List.nil_append]
  refine fzF_i ⟨p, fs3 dims md (.ref t), t, rfl, by rw [eupd_ne hpt.symm, eupd_same], by rfl, hpt, ?_⟩
  have e4 : fz (fun b => b == t) (eupd (eupd (eupd (eupd eh p (some (.ins "System" (putE "kept_modulus" (.int md) (putE "dimension_count" (.int dims) []))))) t (some (.dct []))) p (some (.ins "System" (fs3 dims md (.ref t))))) t (some (.dct (tabE (sortR rows))))) 9 (.ref t) = .dct (tabE (sortR rows)) := by
    exact (fz_dct (k := 8) (by simp) eupd_same).trans (congrArg EV.dct (fz_tab (k := 4) _))
  rw [e4]
  have e5 : putE "kept_tables" (.dct (tabE (sortR rows))) (fs3 dims md (.ref t)) = fs3 dims md (.dct (tabE (sortR rows))) := by rfl
  rw [e5]
  repeat walk_at "vm"
  refine ⟨_, .dct (tabE (sortR rows)), by simp only [insE, eupd_same]; rfl, by rfl, ?_⟩
  refine ⟨_, rfl, ?_⟩
  refine nam_out (sortR rows) [] (by rw [sum_perm hperm]; have := h.t; simp; omega) ?_
  repeat walk_at "vm"
  refine tuple_i (xs := namE (sortR rows)) rfl ?_
  repeat walk_at "vm"
  refine ⟨p, _, rfl, eupd_same, by simp [fs3], ?_⟩
  dsimp only
  refine ⟨trivial, ?_⟩
  rw [eupd_eupd]
  have e6 : putE "named_reads" (.tup (namE (sortR rows))) (fs3 dims md (.dct (tabE (sortR rows)))) = ([("dimension_count", EV.int dims), ("kept_modulus", EV.int md), ("kept_tables", EV.dct (tabE (sortR rows))), ("named_reads", EV.tup (namE (sortR rows)))] : List (Str × EV)) := by rfl
  rw [e6]
  have e7 : fz (nw eh) (eupd (drE (fun b => b == t) (eupd (eupd (eupd (eupd eh p (some (.ins "System" (putE "kept_modulus" (.int md) (putE "dimension_count" (.int dims) []))))) t (some (.dct []))) p (some (.ins "System" (fs3 dims md (.ref t))))) t (some (.dct (tabE (sortR rows)))))) p (some (.ins "System" [("dimension_count", .int dims), ("kept_modulus", .int md), ("kept_tables", .dct (tabE (sortR rows))), ("named_reads", .tup (namE (sortR rows)))]))) 9 (.ref p) = sysE dims md (sortR rows) := by
    have hn : nw eh p = true := by simp [nw, hp]
    rw [fz_ins (k := 8) hn eupd_same]
    simp only [List.map_cons, List.map_nil]
    rw [fz_dctT (k := 3), fz_tupN (k := 5), fz_int (k := 8), fz_int (k := 8)]
    rfl
  rw [e7]
  have e8 : ∀ o o1 o2 o3 o4, drE (nw eh) (eupd (drE (fun b => b == t) (eupd (eupd (eupd (eupd eh p o) t o1) p o2) t o3)) p o4) = eh := fun o o1 o2 o3 o4 => by
    funext c
    unfold drE nw eupd
    by_cases hc : c = p
    · subst hc; simp [hp]
    · by_cases hc2 : c = t
      · subst hc2; simp [ht0]
      · cases e : eh c <;> simp [hc, hc2, e]
  rw [e8]
  exact k

/-! ### systems read -/
theorem getK_tab : ∀ {rs : List Row} {r : Row}, (rs.map (·.w)).Nodup → r ∈ rs → getK (tabE rs) (.inr r.w) = some (tabV r)
  | r' :: rs, r, hn, hr => by
    show (if (Sum.inr r'.w : Key) = .inr r.w then some (tabV r') else getK (tabE rs) (.inr r.w)) = _
    rw [List.map_cons, List.nodup_cons] at hn
    rcases List.mem_cons.mp hr with rfl | h
    · rw [if_pos rfl]
    · have : r'.w ≠ r.w := fun z => hn.1 (z ▸ List.mem_map.mpr ⟨r, h, rfl⟩)
      rw [if_neg (fun z => this (Sum.inr.inj z))]
      exact getK_tab hn.2 h
/-- the least of ints, 0 of none -/
def mnI : List Int → Int
  | [] => 0
  | n :: r => leastI n r
theorem minT_i {ns : List Int} {eh : Eh} {q : KE} (h : ns ≠ []) (k : q (.int (mnI ns)) eh) : bMin [.tup (ns.map .int)] eh q := by
  cases ns with
  | nil => exact absurd rfl h
  | cons n r => exact ⟨_, n, r, rfl, intsE_map (n :: r), k⟩
theorem sub_comp {es : Es} {q : KE} {eh : Eh} {i j : Nat} (hij : i ≠ j) (hi : i < es.length) (hj : j < es.length) : ∀ (us vs acc : List Int), acc.length + us.length ≤ 100 → q (.lst ((acc ++ List.zipWith (· - ·) us vs).map .int)) eh →
    compL (.tp [.nm i, .nm j]) tYesE (mOp oSub (mVar i) (mVar j)) [i, j] (fun _ => True) q (((us.map EV.int).zip (vs.map EV.int)).map fun p => .tup [p.1, p.2]) (acc.map .int) es eh
  | [], vs, acc, _, k => compL_nil trivial (by simpa using k)
  | u :: us, [], acc, _, k => compL_nil trivial (by simpa using k)
  | u :: us, v :: vs, acc, hl, k => by
    simp only [List.length_cons] at hl
    refine compL_cons trivial rfl ?_
    repeat walk_at "vm"
    refine var_i (x := .int u) ?_ ?_
    · simp [List.getElem?_set, wipeE, hi, hij, hij.symm]
    refine var_i (x := .int v) ?_ ?_
    · simp [List.getElem?_set, wipeE, hj, hij, hij.symm]
    repeat walk_at "vm"
    refine ⟨Nat.lt_of_lt_of_le (by rw [List.length_map]; exact (show acc.length < 200 by omega)) (by decide), ?_⟩
    have e : acc.map EV.int ++ [.int (u - v)] = (acc ++ [u - v]).map .int := by simp
    rw [e]
    exact sub_comp hij hi hj us vs (acc ++ [u - v]) (by simp; omega) (by simpa using k)

/-! ### the property names -/
theorem names_fz {S : Addr → Bool} {xc : XC} {dims md : Int} {rs : List Row} {eh : Eh} {q : KE} (hS : S = nw eh) (k : q (.lst (rs.map fun r => .str r.w)) eh) : FZ S fn_System_names xc [sysE dims md rs] eh q := by
  subst hS
  unfold FZ fn_System_names ms_System_names
  repeat walk_at "vm"
  refine ⟨_, .dct (tabE rs), rfl, by rfl, ?_⟩
  repeat walk_at "vm"
  refine ⟨tabE rs, rfl, ?_⟩
  dsimp only
  have e : (tabE rs).map (fun p => keyV p.1) = (rs.map (·.w)).map .str := by simp [tabE, keyV]
  rw [e, drE_self]
  have e2 : fz (nw eh) eh 9 (.lst ((rs.map (·.w)).map .str)) = .lst ((rs.map (·.w)).map .str) := congrArg EV.lst (fz_strs _)
  rw [e2, List.map_map]
  exact k

/-! ### rows of the family rng fit -/
theorem words_ok : ∀ w ∈ WORDS, nameOk w = true := by decide +kernel
theorem good_fit {dims many most wide md : Int} {rows : List Row} (h : Good dims many most wide rows) (hd : 1 ≤ dims ∧ dims ≤ 3) (hm : 1 ≤ many ∧ many ≤ 6) (hmd : 2 ≤ md) (ho : most ≤ 12) : SysFit dims md rows where
  d := hd
  l := by have := h.len; omega
  nd := h.nd
  r := fun r hr => ⟨words_ok r.w (h.wd r hr), fun x hx => by
    have z := h.rd r hr x hx
    obtain ⟨r', hr', e⟩ := List.mem_map.mp z.t
    exact ⟨by rw [← e]; exact words_ok _ (h.wd r' hr'), by have := z.l; omega, z.f.1⟩⟩
  t := by have := h.tot; omega
  m := hmd
  tg := fun r hr x hx => (h.rd r hr x hx).t

/-! ### tables and cells checked -/
theorem table_fz {S : Addr → Bool} {xc : XC} {dims md : Int} {rs : List Row} {r : Row} {eh : Eh} {q : KE} (hS : S = nw eh) (hn : (rs.map (·.w)).Nodup) (hr : r ∈ rs) (k : q .non eh) : ([sysE dims md rs, EV.str r.w] ++ []).length = 2 ∧ FZ S fn_check_table xc ([sysE dims md rs, EV.str r.w] ++ []) eh q := by
  refine ⟨rfl, ?_⟩
  subst hS
  unfold FZ fn_check_table ms_check_table
  repeat walk_at "vm"
  refine ⟨_, .dct (tabE rs), rfl, by rfl, ?_⟩
  refine ninD_i (kvs := tabE rs) (by simp) rfl rfl ?_
  rw [getK_tab hn hr]
  refine ⟨_, rfl, ?_⟩
  refine cF_i ?_
  repeat walk_at "vm"
  dsimp only
  rw [drE_self]
  exact k

/-! ### a system's constants and reads -/
theorem okD_rd (x : Rd) : okD 2 (rdE x) = true := by
  show [EV.str x.t, .tup (x.v.map .int), .int x.f].all (okD 1) = true
  simp only [List.all_cons, List.all_nil, Bool.and_true, okD_ints, okD_str, Bool.true_and]; rfl
theorem okD_rds (rs : List Rd) : okD 3 (.lst (rs.map rdE)) = true := okD_map fun x _ => okD_rd x
theorem okD_row (r : Row) : okD 4 (rowE r) = true := by
  show [EV.str r.w, .int r.n, .lst (r.rs.map rdE)].all (okD 3) = true
  simp only [List.all_cons, List.all_nil, Bool.and_true, okD_rds, okD_str, Bool.true_and]; rfl
theorem okD_rows (rs : List Row) : okD 5 (.lst (rs.map rowE)) = true := okD_map fun r _ => okD_row r
theorem okD_tabV (r : Row) : okD 4 (tabV r) = true := by
  show [EV.int r.n, .tup (r.rs.map rdE)].all (okD 3) = true
  have : okD 3 (.tup (r.rs.map rdE)) = true := okD_tup fun x _ => okD_rd x
  simp only [List.all_cons, List.all_nil, Bool.and_true, this]; rfl
/-! ### systems as frozen values -/
theorem fz_sys {S : Addr → Bool} {eh : Eh} {dims md : Int} {rs : List Row} : fz S eh 9 (sysE dims md rs) = sysE dims md rs := by
  show EV.obj "System" [("dimension_count", fz S eh 8 (.int dims)), ("kept_modulus", fz S eh 8 (.int md)), ("kept_tables", fz S eh 8 (.dct (tabE rs))), ("named_reads", fz S eh 8 (.tup (namE rs)))] = _
  rw [fz_dctT (k := 3), fz_tupN (k := 5), fz_int, fz_int]; rfl
theorem fin_sys {eh eh1 : Eh} {dims md : Int} {rs : List Row} {q : KE} (k : Kp eh eh1) (h : q (sysE dims md rs) eh) : q (fz (nw eh) eh1 9 (sysE dims md rs)) (drE (nw eh) eh1) := by rw [fz_sys, k.dr]; exact h

/-! ### constants, reads, modulus of a system -/
theorem const_fz {S : Addr → Bool} {xc : XC} {dims md : Int} {rs : List Row} {r : Row} {eh : Eh} {q : KE} (hS : S = nw eh) (hn : (rs.map (·.w)).Nodup) (hr : r ∈ rs) (k : q (.int r.n) eh) : FZ S fn_System_constant xc [sysE dims md rs, .str r.w] eh q := by
  subst hS
  unfold FZ fn_System_constant ms_System_constant
  walk_at "go"
  refine table_fz rfl hn hr ?_
  walk_at "go"
  refine ⟨_, .dct (tabE rs), rfl, by rfl, ?_⟩
  walk_at "go"
  refine ixd_i (kvs := tabE rs) rfl rfl (getK_tab hn hr) ?_
  walk_at "go"
  refine ix_i (xs := [.int r.n, .tup (r.rs.map rdE)]) (z := .int r.n) rfl (by rfl) ?_
  exact fin_data (n := 0) .refl rfl k
theorem readsM_fz {S : Addr → Bool} {xc : XC} {dims md : Int} {rs : List Row} {r : Row} {eh : Eh} {q : KE} (hS : S = nw eh) (hn : (rs.map (·.w)).Nodup) (hr : r ∈ rs) (k : q (.lst (r.rs.map rdE)) eh) : FZ S fn_System_reads xc [sysE dims md rs, .str r.w] eh q := by
  subst hS
  unfold FZ fn_System_reads ms_System_reads
  walk_at "go"
  refine table_fz rfl hn hr ?_
  walk_at "go"
  refine ⟨_, .dct (tabE rs), rfl, by rfl, ?_⟩
  walk_at "go"
  refine ixd_i (kvs := tabE rs) rfl rfl (getK_tab hn hr) ?_
  walk_at "go"
  refine ix_i (xs := [.int r.n, .tup (r.rs.map rdE)]) (z := .tup (r.rs.map rdE)) rfl (by rfl) ?_
  walk_at "go"
  refine list_i rfl ?_
  exact fin_data (n := 3) .refl (okB_of (okD_rds _)) k
theorem mod_fz {S : Addr → Bool} {xc : XC} {dims md : Int} {rs : List Row} {eh : Eh} {q : KE} (hS : S = nw eh) (k : q (.int md) eh) : FZ S fn_System_modulus xc [sysE dims md rs] eh q := by
  subst hS
  unfold FZ fn_System_modulus ms_System_modulus
  walk_at "go"
  refine ⟨_, .int md, rfl, by rfl, ?_⟩
  exact fin_data (n := 0) .refl rfl k

/-! ### the property dimensions -/
theorem dims_fz {S : Addr → Bool} {xc : XC} {dims md : Int} {rs : List Row} {eh : Eh} {q : KE} (hS : S = nw eh) (k : q (.int dims) eh) : FZ S fn_System_dimensions xc [sysE dims md rs] eh q := by
  subst hS
  unfold FZ fn_System_dimensions ms_System_dimensions
  walk_at "go"
  refine ⟨_, .int dims, rfl, by rfl, ?_⟩
  exact fin_data (n := 0) .refl rfl k

/-! ### sorted rows -/
theorem rowLe_total : PySem.W.TotalLe (fun r r' : Row => PySem.W.dataLe false key0 (rowE r) (rowE r')) := by
  have T := PySem.W.sortLe_total (PyProof.Rows.listOrd PyProof.Rows.itemOrd) false fun b : EV => PySem.W.keyToks (key0 b)
  exact ⟨fun a b c h1 h2 => T.trans (rowE a) (rowE b) (rowE c) h1 h2, fun a b => T.total (rowE a) (rowE b)⟩
theorem sortR_pw (rows : List Row) : (sortR rows).Pairwise fun r r' => PySem.W.dataLe false key0 (rowE r) (rowE r') = true := PySem.W.sort_pairwise rowLe_total rows
theorem str_ext {a b : Str} (h : a.cps.toList = b.cps.toList) : a = b := by
  cases a; cases b
  simp only at h
  congr 1
  exact Array.toList_inj.mp h
theorem rowLe_name {r r' : Row} (h1 : PySem.W.dataLe false key0 (rowE r) (rowE r') = true) (h2 : PySem.W.dataLe false key0 (rowE r') (rowE r) = true) : r.w = r'.w := by
  have e : ∀ r : Row, PySem.W.keyToks (key0 (rowE r)) = [.inr r.w.cps.toList] := fun r => rfl
  unfold PySem.W.dataLe PySem.W.sortLe at h1 h2
  simp only [cond_false, Bool.not_eq_true', e] at h1 h2
  have := (PyProof.Rows.listOrd PyProof.Rows.itemOrd).total [Sum.inr r'.w.cps.toList] [Sum.inr r.w.cps.toList] h1 h2
  simp only [List.cons.injEq, Sum.inr.injEq, and_true] at this
  exact (str_ext this).symm
theorem row_uniq {rows : List Row} (hn : (rows.map (·.w)).Nodup) {r r' : Row} (h : r ∈ rows) (h' : r' ∈ rows) (e : r.w = r'.w) : r = r' := by
  induction rows with
  | nil => cases h
  | cons x l ih =>
    rw [List.map_cons, List.nodup_cons] at hn
    rcases List.mem_cons.mp h with e1 | h1
    · rcases List.mem_cons.mp h' with e2 | h2
      · rw [e1, e2]
      · exact absurd (List.mem_map.mpr ⟨r', h2, by rw [← e1, e]⟩) hn.1
    · rcases List.mem_cons.mp h' with e2 | h2
      · exact absurd (List.mem_map.mpr ⟨r, h1, by rw [← e2, e]⟩) hn.1
      · exact ih hn.2 h1 h2
theorem sortR_eq {A B : List Row} (hp : A.Perm B) (hn : (A.map (·.w)).Nodup) : sortR A = sortR B := by
  have h1 := sortR_perm A
  have h2 := sortR_perm B
  refine List.Perm.eq_of_pairwise (le := fun r r' => PySem.W.dataLe false key0 (rowE r) (rowE r') = true) (fun a b ha hb h h' => ?_) (sortR_pw A) (sortR_pw B) (h1.trans (hp.trans h2.symm))
  exact row_uniq hn (h1.mem_iff.mp ha) (hp.mem_iff.mpr (h2.mem_iff.mp hb)) (rowLe_name h h')
theorem sortR_sort {A : List Row} (hn : (A.map (·.w)).Nodup) : sortR (sortR A) = sortR A := sortR_eq (sortR_perm A) (((sortR_perm A).map (·.w)).nodup_iff.mpr hn)

/-! ### systems: fewer reads, another order -/
theorem SysFit.sub {dims md : Int} {rows : List Row} (h : SysFit dims md rows) (f : Row → Row) (hw : ∀ r, (f r).w = r.w) (hs : ∀ r, ∀ x ∈ (f r).rs, x ∈ r.rs) (hl : ∀ r, (f r).rs.length ≤ r.rs.length) : SysFit dims md (rows.map f) := by
  have ew : (rows.map f).map (·.w) = rows.map (·.w) := by rw [List.map_map]; exact List.map_congr_left fun r _ => hw r
  refine ⟨h.d, by simpa using h.l, by rw [ew]; exact h.nd, fun r hr => ?_, ?_, h.m, fun r hr x hx => ?_⟩
  · obtain ⟨r', hr', rfl⟩ := List.mem_map.mp hr
    have z := h.r r' hr'
    exact ⟨by rw [hw]; exact z.w, fun x hx => z.rd x (hs r' x hx)⟩
  · refine Nat.le_trans ?_ h.t
    rw [List.map_map]
    have : ∀ l : List Row, (l.map ((fun r : Row => r.rs.length) ∘ f)).sum ≤ (l.map fun r => r.rs.length).sum := by
      intro l
      induction l with
      | nil => exact Nat.le_refl _
      | cons a l ih => simp only [List.map_cons, List.sum_cons, Function.comp]; exact Nat.add_le_add (hl a) ih
    exact this rows
  · obtain ⟨r', hr', rfl⟩ := List.mem_map.mp hr
    rw [ew]; exact h.tg r' hr' x (hs r' x hx)
theorem SysFit.perm {dims md : Int} {A B : List Row} (h : SysFit dims md A) (p : A.Perm B) : SysFit dims md B := by
  have pw := p.map (·.w)
  refine ⟨h.d, by rw [← p.length_eq]; exact h.l, pw.nodup_iff.mp h.nd, fun r hr => h.r r (p.mem_iff.mpr hr), ?_, h.m, fun r hr x hx => pw.mem_iff.mp (h.tg r (p.mem_iff.mpr hr) x hx)⟩
  rw [← sum_perm p]; exact h.t
theorem SysFit.sort {dims md : Int} {A : List Row} (h : SysFit dims md A) : SysFit dims md (sortR A) := h.perm (sortR_perm A).symm

/-! ### named reads, the length -/
theorem okD_nam (w : Str) (i : Int) : okD 1 (.tup [.str w, .int i]) = true := rfl
theorem okD_nams (rs : List Row) : okD 2 (.lst (namE rs)) = true := List.all_eq_true.mpr fun y hy => by
  obtain ⟨r, _, h⟩ := List.mem_flatMap.mp hy
  obtain ⟨i, _, rfl⟩ := List.mem_map.mp h
  rfl
theorem allreads_fz {S : Addr → Bool} {xc : XC} {dims md : Int} {rs : List Row} {eh : Eh} {q : KE} (hS : S = nw eh) (k : q (.lst (namE rs)) eh) : FZ S fn_System_all_reads xc [sysE dims md rs] eh q := by
  subst hS
  unfold FZ fn_System_all_reads ms_System_all_reads
  walk_at "go"
  refine ⟨_, .tup (namE rs), rfl, by rfl, ?_⟩
  walk_at "go"
  refine list_i rfl ?_
  exact fin_data (n := 2) .refl (okB_of (okD_nams rs)) k
theorem len_ok {dims md : Int} {rs : List Row} {eh : Eh} {q : KE} (hl : rs.length ≤ 1000) (k : q (.int rs.length) eh) : bLenO "System" fn_System_dlen [sysE dims md rs] eh q := by
  refine ⟨_, _, rfl, rfl, ?_⟩
  unfold fn_System_dlen ms_System_dlen
  walk_at "go"
  refine ⟨_, .dct (tabE rs), rfl, by rfl, ?_⟩
  walk_at "go"
  refine .inr ⟨tabE rs, rfl, ?_⟩
  have e : (tabE rs).length = rs.length := by simp [tabE]
  rw [e]
  exact ⟨_, rfl, by omega, k⟩

/-! ### tables listed, reads left out -/
theorem tlist_fz {S : Addr → Bool} {xc : XC} {dims md : Int} {rs : List Row} {eh : Eh} {q : KE} (hS : S = nw eh) (hl : rs.length ≤ 1000) (k : q (.lst (rs.map rowE)) eh) : ([sysE dims md rs] ++ []).length = 1 ∧ FZ S fn_table_list xc ([sysE dims md rs] ++ []) eh q := by
  refine ⟨rfl, ?_⟩
  subst hS
  unfold FZ fn_table_list ms_table_list
  walk_at "go"
  refine ⟨_, .dct (tabE rs), rfl, by rfl, ?_⟩
  walk_at "go"
  refine ⟨tabE rs, rfl, ?_⟩
  have e : (tabE rs).map (fun p => EV.tup [keyV p.1, p.2]) = rs.map fun r => .tup [.str r.w, tabV r] := by simp [tabE, keyV]
  rw [e]
  refine comp_map (f := rowE) trivial (by simp; omega) (fun r _ => asgx_i rfl fun q' hq => ?_) ?_
  · unfold ce_table_list_1
    walk_at "go"
    refine list_i (xs := r.rs.map rdE) rfl ?_
    walk_at "go"
    exact hq
  · exact fin_data (n := 5) .refl (okB_of (okD_rows rs)) (by simpa using k)

/-! ### the word of a caught error -/
theorem raise_i {cn : Str} {a : ME} {xc : XC} {d : Dn} {es : Es} {eh : Eh} (h : a xc es eh fun x eh1 => xc cn x eh1) : sRaise cn a xc d es eh := h
theorem as_i {m : ME} {xc : XC} {es : Es} {eh : Eh} {q : KE} (h : m xc es eh fun x eh1 => ∃ a C y, x = .exa a C y ∧ q (.exc C y) eh1) : mAs m xc es eh q := h
theorem compH_i {a : Addr} {ml : ME} {g : Tg} {tt : MT} {te : ME} {vs : List Nat} {xc : XC} {es : Es} {eh : Eh} {q : KE} (hx : ∃ (i : Nat) (C : Str) (x : EV), es[i]? = some (some (EV.exa a C x))) (h : ml xc es eh fun y eh1 => ∃ xs, y = .lst xs ∧ compL g tt te vs (fun _ => True) q xs [] es eh1) : mCompH a ml g tt te vs xc es eh q := ⟨hx, h⟩
theorem callH_i {F : FN} {n : Nat} {t : MA} {xc : XC} {es : Es} {eh : Eh} {q : KE} (h : t xc es eh fun xs eh1 => xs.length = n ∧ F xF xs eh1 q) : mCallH F n t xc es eh q := h
theorem tryH_i {es : List Str} {cn : Str} {i : Nat} {mb : MS} {ms : Addr → MS} {xc : XC} {d : Dn} {s : Es} {eh : Eh} (h : mb (fun C x eh1 => C ∈ es ∧ isX C cn = true ∧ ∀ a, ms a xF { nx := fun s' eh' => d.nx (s'.set i none) eh', rt := d.rt, bk := fun s' eh' => d.bk (s'.set i none) eh', ct := fun s' eh' => d.ct (s'.set i none) eh' } (s.set i (some (.exa a C x))) eh1) d s eh) : sTryH es cn i mb ms xc d s eh := h
theorem nox_i {m : ME} {xc : XC} {es : Es} {eh : Eh} {q : KE} (h : m xF es eh q) : mNox m xc es eh q := h
theorem eqII_i {i j : Int} {neg : Bool} {eh : Eh} {q : KE} (h : q (.bl (neg ^^ decide (i = j))) eh) : cEqI neg (.int i) (.int j) eh q := ⟨i, j, rfl, rfl, h⟩
theorem ixL_i {x z : EV} {xs : List EV} {i : Int} {eh : Eh} {q : KE} (e : seqE eh x = some xs) (ez : atI xs i = some z) (h : q z eh) : oIxL x (.int i) eh q := ⟨xs, i, z, e, rfl, ez, h⟩
theorem isE_i {C D : Str} {x : EV} {eh : Eh} {q : KE} (hC : C ∈ er.es) (hD : D ∈ er.es) (k : q (.bl (isX C D)) eh) : bIsE er.es [.exc C x, .glo D] eh q := ⟨C, x, hC, .inl ⟨D, rfl, hD, k⟩⟩
theorem isV_i {C : Str} {x : EV} {eh : Eh} {q : KE} (hC : C ∈ er.es) (k : q (.bl true) eh) : bIsE er.es [.exc C x, .ty "ValueError"] eh q := ⟨C, x, hC, .inr ⟨rfl, k⟩⟩
def cW : List (Str × Str) := [("number", "InvalidNumber"), ("system", "InvalidSystem"), ("name", "InvalidName"), ("axes", "InvalidAxes"), ("table", "UnknownTable"), ("cell", "InvalidCell"), ("read", "InvalidRead"), ("shifts", "InvalidShifts"), ("ready", "NotReady"), ("far", "NoFar"), ("undo", "NothingToUndo"), ("text", "Unreadable")]
def cwE (C : Str) (p : Str × Str) : EV := .tup [.str p.1, .bl (isX C p.2)]
theorem caught_ok {xc : XC} {a : Addr} {C wd : Str} {x : EV} {eh : Eh} {q : KE} (hC : C ∈ er.es) (hw : (cW.filter fun p => isX C p.2).map (·.1) = [wd]) (k : q (.tup [.str wd, x]) eh) : [EV.exa a C x].length = 1 ∧ fn__law_caught a xc [.exa a C x] eh q := by
  refine ⟨rfl, ?_⟩
  unfold fn__law_caught ms__law_caught
  walk_at "go"
  iterate 2
    refine as_i ?_
    walk_at "go"
    refine ⟨_, _, _, rfl, ?_⟩
    walk_at "go"
    refine isE_i hC (by decide) ?_
    walk_at "go"
  iterate 5
    iterate 2
      refine as_i ?_
      walk_at "go"
      refine ⟨_, _, _, rfl, ?_⟩
      walk_at "go"
      refine isE_i hC (by decide) ?_
      walk_at "go"
    refine addF_i (szL (by simp)) ?_
    walk_at "go"
  refine compH_i ⟨0, C, x, rfl⟩ ?_
  walk_at "go"
  refine ⟨cW.map (cwE C), rfl, ?_⟩
  refine comp_filter (p := fun p => isX C p.2) (f := fun p => .str p.1) trivial (by decide) (fun p hp => asgx_i rfl ⟨fun qt hq => ?_, fun _ q' hq' => ?_⟩) ?_
  · walk_at "go"
    exact hq
  · walk_at "go"
    exact hq'
  have e : (cW.filter fun p => isX C p.2).map (fun p => EV.str p.1) = [.str wd] := by
    have := congrArg (List.map EV.str) hw
    rw [List.map_map] at this
    exact this
  rw [List.nil_append, e]
  walk_at "go"
  refine eqII_i ?_
  walk_at "go"
  refine cT_i ?_
  walk_at "go"
  refine as_i ?_
  walk_at "go"
  refine ⟨_, _, _, rfl, ?_⟩
  walk_at "go"
  refine isV_i hC ?_
  walk_at "go"
  refine ixL_i (xs := [.str wd]) (z := .str wd) rfl (by rfl) ?_
  walk_at "go"
  refine as_i ?_
  walk_at "go"
  refine ⟨_, _, _, rfl, ?_⟩
  walk_at "go"
  refine ⟨_, _, rfl, hC, ?_⟩
  walk_at "go"
  exact k

/-! ### names that may be odd -/
theorem name_gen {S : Addr → Bool} {xc : XC} {w : Str} {eh : Eh} {q : KE} (hS : S = nw eh) (hl : w.length ≤ 90) (k : q (.bl (nameOk w)) eh) : ([EV.str w] ++ []).length = 1 ∧ FZ S fn_is_name xc ([EV.str w] ++ []) eh q := by
  refine ⟨rfl, ?_⟩
  subst hS
  have fin : ∀ b, b = nameOk w → q (fz (nw eh) eh 9 (.bl b)) (drE (nw eh) eh) := fun b e => by rw [drE_self, e]; exact k
  unfold FZ fn_is_name ms_is_name
  walk_at "go"
  refine lenS_i (szL (by omega)) ?_
  walk_at "go"
  refine cD_i (fun h1 => ?_) (fun h1 => ?_)
  · walk_at "go"
    refine cD_i (fun h2 => ?_) (fun h2 => ?_)
    · walk_at "go"
      refine ⟨_, _, rfl, ?_⟩
      have hcl : w.cps.toList.length ≤ 100 := by
        have : w.cps.toList.length = w.length := by rw [Array.length_toList]; rfl
        omega
      refine name_comp (by simp) w.cps.toList [] (by simpa using hcl) ?_
      walk_at "go"
      refine all_i (bs := [] ++ w.cps.toList.map inL) rfl ?_
      refine fin _ ?_
      unfold nameOk
      rw [decide_eq_true (show 1 ≤ w.length by omega), decide_eq_true (show w.length ≤ 8 by omega)]
      simp [List.all_map]
    · refine fin false ?_
      unfold nameOk
      rw [decide_eq_false (show ¬ w.length ≤ 8 by omega)]
      simp
  · walk_at "go"
    refine fin false ?_
    unfold nameOk
    rw [decide_eq_false (show ¬ 1 ≤ w.length by omega)]
    rfl

/-! ### a system shown by the law -/
def sm (n : Int) : Prop := n.natAbs < 10 ^ 99
structure RowB (r : Row) : Prop where
  ch : chS r.w = true
  num : sm r.n
  rd : ∀ x ∈ r.rs, chS x.t = true ∧ (∀ n ∈ x.v, sm n) ∧ sm x.f
theorem okS_int {n : Nat} {i : Int} (h : sm i) : okS n (.int i) = true := by cases n <;> exact decide_eq_true h
theorem okS_str {n : Nat} {w : Str} (h : chS w = true) : okS n (.str w) = true := by cases n <;> exact h
theorem okS_ints {n : Nat} {l : List Int} (h : ∀ i ∈ l, sm i) : okS (n + 1) (.tup (l.map .int)) = true := okS_tup fun i hi => okS_int (h i hi)
theorem okS_rd {x : Rd} (h : chS x.t = true ∧ (∀ n ∈ x.v, sm n) ∧ sm x.f) : okS 2 (rdE x) = true := by
  show [EV.str x.t, .tup (x.v.map .int), .int x.f].all (okS 1) = true
  simp only [List.all_cons, List.all_nil, Bool.and_true, okS_str h.1, okS_ints h.2.1, okS_int h.2.2]
theorem okS_row {r : Row} (h : RowB r) : okS 4 (rowE r) = true := by
  show [EV.str r.w, .int r.n, .lst (r.rs.map rdE)].all (okS 3) = true
  have : okS 3 (.lst (r.rs.map rdE)) = true := okS_map fun x hx => okS_rd (h.rd x hx)
  simp only [List.all_cons, List.all_nil, Bool.and_true, okS_str h.ch, okS_int h.num, this]
def shE (dims md : Int) (rs : List Row) : EV := .lst [.int dims, .int md, .lst (rs.map rowE), .lst (namE rs), .int rs.length]
def shS (dims md : Int) (rs : List Row) : Str := (D (shE dims md rs)).shown
theorem okS_sh {dims md : Int} {rs : List Row} (hd : sm dims) (hm : sm md) (hr : ∀ r ∈ rs, RowB r) (hl : rs.length ≤ 6) (hn : ∀ r ∈ rs, r.rs.length ≤ 12) : okS 6 (shE dims md rs) = true := by
  have a : okS 5 (.lst (rs.map rowE)) = true := okS_map fun r h => okS_row (hr r h)
  have b : okS 5 (.lst (namE rs)) = true := List.all_eq_true.mpr fun y hy => by
    obtain ⟨r, h1, h2⟩ := List.mem_flatMap.mp hy
    obtain ⟨i, hi, rfl⟩ := List.mem_map.mp h2
    have := hn r h1
    have hi' := List.mem_range.mp hi
    show [EV.str r.w, .int i].all (okS 3) = true
    simp only [List.all_cons, List.all_nil, Bool.and_true, okS_str (hr r h1).ch, Bool.true_and]
    exact okS_int (Nat.lt_of_le_of_lt (show (i : Int).natAbs ≤ 12 by omega) (by decide +kernel))
  show [EV.int dims, .int md, .lst (rs.map rowE), .lst (namE rs), .int rs.length].all (okS 5) = true
  have c : okS 5 (.int (rs.length : Int)) = true := okS_int (Nat.lt_of_le_of_lt (show (rs.length : Int).natAbs ≤ 6 by omega) (by decide +kernel))
  simp only [List.all_cons, List.all_nil, Bool.and_true, okS_int hd, okS_int hm, a, b, c]
theorem bulk_str (w : Str) : (D (.str w)).bulk = w.length := rfl
theorem bulk_int (i : Int) : (D (.int i)).bulk = 0 := rfl
theorem bulk_rd {x : Rd} (h1 : x.t.length ≤ 8) (h2 : x.v.length ≤ 3) : (D (rdE x)).bulk ≤ 20 := by
  have := bulk_map (c := EV.int) (m := 0) (l := x.v) fun _ _ => Nat.le_refl _
  show PyData.bulkAll [D (.str x.t), .tuple (DL (x.v.map .int)), D (.int x.f)] ≤ 20
  simp only [PyData.bulkAll, bulk_str, bulk_int, PyData.bulk]
  omega
theorem bulk_row {r : Row} (h1 : r.w.length ≤ 8) (h2 : ∀ x ∈ r.rs, x.t.length ≤ 8 ∧ x.v.length ≤ 3) (h3 : r.rs.length ≤ 12) : (D (rowE r)).bulk ≤ 300 := by
  have := bulk_map (c := rdE) (m := 20) (l := r.rs) fun x hx => bulk_rd (h2 x hx).1 (h2 x hx).2
  show PyData.bulkAll [D (.str r.w), D (.int r.n), .list (DL (r.rs.map rdE))] ≤ 300
  simp only [PyData.bulkAll, bulk_str, bulk_int, PyData.bulk]
  omega
theorem DL_append : ∀ a b : List EV, DL (a ++ b) = DL a ++ DL b
  | [], _ => rfl
  | x :: a, b => by simp [DL, DL_append a b]
theorem bulkAll_append : ∀ a b : List PyData, PyData.bulkAll (a ++ b) = PyData.bulkAll a + PyData.bulkAll b
  | [], b => by simp [PyData.bulkAll]
  | x :: a, b => by simp only [List.cons_append, PyData.bulkAll, bulkAll_append a b]; omega
theorem bulk_nam : ∀ {rs : List Row}, (∀ r ∈ rs, r.w.length ≤ 8 ∧ r.rs.length ≤ 12) → PyData.bulkAll (DL (namE rs)) ≤ rs.length * 200
  | [], _ => Nat.zero_le _
  | r :: rs, h => by
    have h1 := h r (by simp)
    have h2 := bulk_nam (rs := rs) fun x hx => h x (by simp [hx])
    have h3 := bulk_map (c := fun i : Nat => EV.tup [.str r.w, .int (i : Int)]) (m := 10) (l := List.range r.rs.length) fun i _ => by
      show PyData.bulkAll [D (.str r.w), D (.int (i : Int))] ≤ 10
      simp only [PyData.bulkAll, bulk_str, bulk_int]; omega
    have e : namE (r :: rs) = namR r ++ namE rs := by simp [namE]
    rw [e, DL_append, bulkAll_append]
    unfold namR
    rw [List.length_range] at h3
    simp only [List.length_cons, Nat.add_mul]
    omega
theorem nameOk_len {w : Str} (h : nameOk w = true) : w.length ≤ 8 := by
  unfold nameOk at h
  simp only [Bool.and_eq_true, decide_eq_true_eq] at h
  exact h.2.1
/-- the bounds of what is shown -/
structure SysB (dims md : Int) (rs : List Row) : Prop where
  f : SysFit dims md rs
  m : sm md
  r : ∀ r ∈ rs, RowB r
theorem SysB.dims {dims md : Int} {rs : List Row} (h : SysB dims md rs) : sm dims := Nat.lt_of_le_of_lt (show dims.natAbs ≤ 3 by have := h.f.d; omega) (by decide +kernel)
theorem SysB.perm {dims md : Int} {A B : List Row} (h : SysB dims md A) (p : A.Perm B) : SysB dims md B := ⟨h.f.perm p, h.m, fun r hr => h.r r (p.mem_iff.mpr hr)⟩
theorem SysB.rl {dims md : Int} {rs : List Row} (h : SysB dims md rs) : ∀ r ∈ rs, r.rs.length ≤ 12 := fun r hr => Nat.le_trans (le_sum (List.mem_map.mpr ⟨r, hr, rfl⟩)) h.f.t
theorem SysB.ok {dims md : Int} {rs : List Row} (h : SysB dims md rs) : okS 6 (shE dims md rs) = true := okS_sh h.dims h.m h.r h.f.l.2 h.rl
theorem SysB.bulk {dims md : Int} {rs : List Row} (h : SysB dims md rs) : (D (shE dims md rs)).bulk ≤ 10000 := by
  have hd := h.f.d
  have b1 := bulk_map (c := rowE) (m := 300) (l := rs) fun r hr => bulk_row (nameOk_len (h.f.r r hr).w) (fun x hx => ⟨nameOk_len ((h.f.r r hr).rd x hx).t, by have := ((h.f.r r hr).rd x hx).l; omega⟩) (h.rl r hr)
  have b2 := bulk_nam (rs := rs) fun r hr => ⟨nameOk_len (h.f.r r hr).w, h.rl r hr⟩
  have hl := h.f.l
  show PyData.bulkAll [D (.int dims), D (.int md), .list (DL (rs.map rowE)), .list (DL (namE rs)), D (.int rs.length)] ≤ 10000
  simp only [PyData.bulkAll, bulk_int, PyData.bulk]
  omega
theorem shown_fz {S : Addr → Bool} {xc : XC} {dims md : Int} {rs : List Row} {eh : Eh} {q : KE} (hS : S = nw eh) (h : SysB dims md rs) (k : q (.str (shS dims md rs)) eh) : ([sysE dims md rs] ++ []).length = 1 ∧ FZ S fn__law_shown xc ([sysE dims md rs] ++ []) eh q := by
  refine ⟨rfl, ?_⟩
  subst hS
  have hl := h.f.l
  unfold FZ fn__law_shown ms__law_shown
  walk_at "go"
  refine ⟨_, rfl, rfl, ?_⟩
  refine names_fz rfl ?_
  walk_at "go"
  refine comp_map (c := fun r : Row => EV.str r.w) (f := rowE) trivial (by simp; omega) (fun r hr => asgx_i rfl fun q' hq => ?_) ?_
  · unfold ce__law_shown_1
    walk_at "go"
    refine nox_i ?_
    walk_at "go"
    refine ⟨_, rfl, by rfl, ?_⟩
    walk_at "go"
    refine ⟨rfl, ?_⟩
    refine const_fz rfl h.f.nd hr ?_
    walk_at "go"
    refine nox_i ?_
    walk_at "go"
    refine ⟨_, rfl, by rfl, ?_⟩
    walk_at "go"
    refine ⟨rfl, ?_⟩
    refine readsM_fz rfl h.f.nd hr ?_
    walk_at "go"
    exact hq
  walk_at "go"
  refine ⟨_, rfl, rfl, ?_⟩
  refine dims_fz rfl ?_
  walk_at "go"
  refine ⟨_, rfl, rfl, ?_⟩
  refine mod_fz rfl ?_
  walk_at "go"
  refine ⟨_, rfl, by rfl, ?_⟩
  walk_at "go"
  refine ⟨rfl, ?_⟩
  refine allreads_fz rfl ?_
  walk_at "go"
  refine len_ok (by omega) ?_
  walk_at "go"
  refine reprS_i (x := shE dims md rs) rfl fro_same h.ok (by decide) (Nat.le_trans h.bulk (by decide)) ?_
  exact fin_data (n := 0) .refl rfl k

/-! ### reads left out -/
def gonE (p : Str × Nat) : EV := .tup [.str p.1, .int p.2]
theorem gonE_inj {a b : Str × Nat} (e : gonE a = gonE b) : a = b := by
  unfold gonE at e
  simp only [EV.tup.injEq, List.cons.injEq, EV.str.injEq, EV.int.injEq, and_true] at e
  exact Prod.ext e.1 (by have := e.2; omega)
theorem gonE_mem {p : Str × Nat} {l : List (Str × Nat)} : gonE p ∈ l.map gonE ↔ p ∈ l := ⟨fun h => by obtain ⟨q, hq, e⟩ := List.mem_map.mp h; rw [← gonE_inj e]; exact hq, fun h => List.mem_map.mpr ⟨p, h, rfl⟩⟩
/-- the named reads as pairs -/
def namP (rs : List Row) : List (Str × Nat) := rs.flatMap fun r => (List.range r.rs.length).map fun i => (r.w, i)
theorem nam_gon (rs : List Row) : namE rs = (namP rs).map gonE := by
  unfold namE namP
  rw [List.map_flatMap]
  congr 1
  funext r
  unfold namR
  rw [List.map_map]; rfl
theorem okD_gon (p : Str × Nat) : okD 1 (gonE p) = true := rfl
theorem okD_gons (l : List (Str × Nat)) : okD 2 (.lst (l.map gonE)) = true := okD_map fun _ _ => rfl
theorem cread_fz {S : Addr → Bool} {xc : XC} {dims md : Int} {rs : List Row} {p : Str × Nat} {eh : Eh} {q : KE} (hS : S = nw eh) (hp : p ∈ namP rs) (k : q .non eh) : ([sysE dims md rs, gonE p] ++ []).length = 2 ∧ FZ S fn_check_read xc ([sysE dims md rs, gonE p] ++ []) eh q := by
  refine ⟨rfl, ?_⟩
  subst hS
  unfold FZ fn_check_read ms_check_read
  walk_at "go"
  refine ⟨_, .tup (namE rs), rfl, by rfl, ?_⟩
  refine in_i (n := 1) true (L := namE rs) rfl (okD_gon p) (fun z hz => by rw [nam_gon] at hz; obtain ⟨c, _, rfl⟩ := List.mem_map.mp hz; rfl) (by decide) (by rw [nam_gon, gonE_mem]; simp [hp]) ?_
  walk_at "go"
  exact fin_data (n := 0) .refl rfl k
def keepR (gone : List (Str × Nat)) (r : Row) : List Rd := (r.rs.zipIdx.filter fun p => !decide ((r.w, p.2) ∈ gone)).map (·.1)
def woR (gone : List (Str × Nat)) (r : Row) : Row := ⟨r.w, r.n, keepR gone r⟩
theorem keepR_sub {gone : List (Str × Nat)} {r : Row} : ∀ x ∈ keepR gone r, x ∈ r.rs := fun x hx => by
  obtain ⟨p, hp, rfl⟩ := List.mem_map.mp hx
  have := (List.mem_filter.mp hp).1
  exact List.fst_mem_of_mem_zipIdx this
theorem keepR_len {gone : List (Str × Nat)} {r : Row} : (keepR gone r).length ≤ r.rs.length := by
  unfold keepR
  rw [List.length_map]
  exact Nat.le_trans (List.length_filter_le _ _) (by simp)
theorem enum_rds (rs : List Rd) : ((rs.map rdE).mapIdx fun i x => EV.tup [.int (i : Nat), x]) = rs.zipIdx.map fun p => .tup [.int p.2, rdE p.1] := by
  rw [List.mapIdx_eq_zipIdx_map, List.zipIdx_map, List.map_map]; rfl
theorem without_fz {S : Addr → Bool} {xc : XC} {dims md : Int} {rs : List Row} {G : EV} {gone : List (Str × Nat)} {eh : Eh} {q : KE} (hS : S = nw eh) (h : SysFit dims md rs) (hG : ∀ eh', Kp eh eh' → froE eh' G = .lst (gone.map gonE)) (hg : ∀ p ∈ gone, p ∈ namP rs) (hgl : gone.length ≤ 1000) (k : q (sysE dims md (sortR (rs.map (woR gone)))) eh) :
    FZ S fn_System_without xc [sysE dims md rs, G] eh q := by
  subst hS
  have hl := h.l
  have hG0 := hG eh .refl
  unfold FZ fn_System_without ms_System_without
  walk_at "go"
  refine walk_i hG0 fun ok o _ => ?_
  refine for_inv (c := gonE) (fun L es eh' => (∀ p ∈ L, p ∈ namP rs) ∧ eh = eh' ∧ ∃ z2, es = [some (sysE dims md rs), some G, z2, none, none, none, none, none, none]) ⟨hg, rfl, _, rfl⟩ ?_ ?_
  · rintro p L es eh' ⟨hL, rfl, z2, rfl⟩
    refine ⟨o, asgx_i rfl fun d' _ hn _ _ => ?_⟩
    unfold bd_System_without_1
    walk_at "go"
    refine cread_fz rfl (hL p (by simp)) ?_
    walk_at "go"
    exact hn _ _ ⟨fun x hx => hL x (by simp [hx]), rfl, _, rfl⟩
  · rintro es eh' ⟨_, rfl, z2, rfl⟩
    refine ⟨o, ?_⟩
    walk_at "go"
    intro t ht
    walk_at "go"
    refine tlist_fz rfl (by omega) ?_
    walk_at "go"
    refine for_inv (c := rowE) (fun L es eh' => ∃ done, rs = done ++ L ∧ eh' = eupd eh t (some (.lst ((done.map (woR gone)).map rowE))) ∧ ∃ z2 z4 z5 z6 z7 z8, es = [some (sysE dims md rs), some G, z2, some (.ref t), z4, z5, z6, z7, z8]) ⟨[], rfl, rfl, _, _, _, _, _, _, rfl⟩ ?_ ?_
    · rintro r L es eh' ⟨done, hd, rfl, z2, z4, z5, z6, z7, z8, rfl⟩
      have hr : r ∈ rs := by rw [hd]; simp
      have hrl : r.rs.length ≤ 12 := Nat.le_trans (le_sum (List.mem_map.mpr ⟨r, hr, rfl⟩)) h.t
      have hdl : done.length ≤ 6 := by have := congrArg List.length hd; simp at this; omega
      refine ⟨trivial, asgx_i rfl fun d' _ hn _ _ => ?_⟩
      unfold bd_System_without_3
      walk_at "go"
      refine ⟨_, _, _, rfl, rfl, ?_⟩
      rw [enum_rds]
      refine comp_filter (f := fun p : Rd × Nat => rdE p.1) (p := fun p => !decide ((r.w, p.2) ∈ gone)) trivial (by simp; omega) (fun p hp => asgx_i rfl ⟨fun qt hq => ?_, fun _ q' hq => ?_⟩) ?_
      · walk_at "go"
        refine in_i (n := 1) (decide ((r.w, p.2) ∈ gone)) (fro_seq (hG _ (.new ht))) (okD_gon (r.w, p.2)) (fun z hz => by obtain ⟨c, _, rfl⟩ := List.mem_map.mp hz; rfl) (by decide) (by rw [show (EV.tup [.str r.w, .int (p.2 : Int)]) = gonE (r.w, p.2) from rfl, gonE_mem]; simp) ?_
        walk_at "go"
        simpa using hq
      · walk_at "go"; exact hq
      walk_at "go"
      refine ⟨⟨(done.map (woR gone)).map rowE, by simp only [lstE, eupd_same]⟩, ?_⟩
      walk_at "go"
      refine ⟨(done.map (woR gone)).map rowE, eupd_same, szT (by simp; omega), ?_⟩
      rw [eupd_eupd]
      refine hn _ _ ⟨done ++ [r], by simp [hd], ?_, _, _, _, _, _, _, rfl⟩
      have e : ((r.rs.zipIdx.filter fun p => !decide ((r.w, p.2) ∈ gone)).map fun p : Rd × Nat => rdE p.1) = (keepR gone r).map rdE := by unfold keepR; rw [List.map_map]; rfl
      simp only [List.nil_append, e]
      simp [woR, rowE]
    · rintro es eh' ⟨done, hd, rfl, z2, z4, z5, z6, z7, z8, rfl⟩
      rw [List.append_nil] at hd
      subst hd
      refine ⟨trivial, ?_⟩
      walk_at "go"
      refine fzV_i rfl eupd_same ?_
      have e0 : eupd (eupd eh t (some (.lst ((rs.map (woR gone)).map rowE)))) t none = eh := by rw [eupd_eupd]; exact eupd_self ht
      rw [e0]
      walk_at "go"
      refine ⟨_, .int dims, rfl, by rfl, ?_⟩
      walk_at "go"
      refine ⟨_, .int md, rfl, by rfl, ?_⟩
      walk_at "go"
      refine ⟨rfl, ?_⟩
      refine init_mz rfl (h.sub (woR gone) (fun _ => rfl) (fun _ => keepR_sub) fun _ => keepR_len) ?_
      exact fin_sys .refl k

/-! ### two systems beside each other -/
theorem getK_hasB : ∀ (rs : List Row) (w : Str), (getK (tabE rs) (.inr w)).isSome = decide (w ∈ rs.map (·.w))
  | [], w => rfl
  | r :: rs, w => by
    show (if (Sum.inr r.w : Key) = .inr w then some (tabV r) else getK (tabE rs) (.inr w)).isSome = _
    by_cases h : r.w = w
    · subst h; simp
    · rw [if_neg (fun z => h (Sum.inr.inj z)), getK_hasB rs w]; simp [Ne.symm h]
theorem beside_fz {S : Addr → Bool} {xc : XC} {dims md md' : Int} {A B : List Row} {eh : Eh} {q : KE} (hS : S = nw eh) (h : SysFit dims md (A ++ B)) (k : q (sysE dims md (sortR (A ++ B))) eh) :
    FZ S fn_System_beside xc [sysE dims md A, sysE dims md' B] eh q := by
  subst hS
  have hl := h.l
  rw [List.length_append] at hl
  have hd : ∀ r ∈ A, r.w ∉ B.map (·.w) := fun r hr hb => by
    have := h.nd
    rw [List.map_append] at this
    exact (List.nodup_append.mp this).2.2 _ (List.mem_map.mpr ⟨r, hr, rfl⟩) _ hb rfl
  unfold FZ fn_System_beside ms_System_beside
  walk_at "go"
  refine ⟨_, .dct (tabE A), rfl, by rfl, ?_⟩
  refine walkD_i ?_
  have e : ((tabE A).map fun p => keyV p.1) = A.map fun r => .str r.w := by simp [tabE, keyV]
  rw [e]
  refine for_inv (fun L es eh' => (∀ r ∈ L, r ∈ A) ∧ eh = eh' ∧ ∃ z2, es = [some (sysE dims md A), some (sysE dims md' B), z2]) ⟨fun _ h => h, rfl, _, rfl⟩ ?_ ?_
  · rintro r L es eh' ⟨hL, rfl, z2, rfl⟩
    refine ⟨trivial, asgx_i rfl fun d' _ hn _ _ => ?_⟩
    unfold bd_System_beside_1
    walk_at "go"
    refine ⟨_, .dct (tabE B), rfl, by rfl, ?_⟩
    refine inD_i (kvs := tabE B) (by simp) rfl rfl ?_
    rw [getK_hasB, decide_eq_false (hd r (hL r (by simp)))]
    walk_at "go"
    exact hn _ _ ⟨fun x hx => hL x (by simp [hx]), rfl, _, rfl⟩
  · rintro es eh' ⟨_, rfl, z2, rfl⟩
    refine ⟨trivial, ?_⟩
    walk_at "go"
    refine ⟨_, .int dims, rfl, by rfl, ?_⟩
    walk_at "go"
    refine tlist_fz rfl (by omega) ?_
    walk_at "go"
    refine tlist_fz rfl (by omega) ?_
    refine addF_i (szL (by simp; omega)) ?_
    walk_at "go"
    refine ⟨_, .int md, rfl, by rfl, ?_⟩
    walk_at "go"
    refine ⟨rfl, ?_⟩
    rw [← List.map_append]
    refine init_mz rfl h ?_
    exact fin_sys .refl k

/-! ### names exchanged -/
theorem W_ch : ∀ v ∈ WORDS, chS v = true := by decide +kernel
def rnV (kvs : List (Str × Str)) (w : Str) : Str := (kvs.lookup w).getD w
def rnRd (ρ : Str → Str) (x : Rd) : Rd := ⟨ρ x.t, x.v, x.f⟩
def rnR (ρ : Str → Str) (r : Row) : Row := ⟨ρ r.w, r.n, r.rs.map (rnRd ρ)⟩
def ndE (kvs : List (Str × Str)) : List (Key × EV) := kvs.map fun p => (.inr p.1, .str p.2)
theorem getK_nd : ∀ (kvs : List (Str × Str)) (w : Str), getK (ndE kvs) (.inr w) = (kvs.lookup w).map .str
  | [], _ => rfl
  | (k, v) :: r, w => by
    show (if (Sum.inr k : Key) = .inr w then some (EV.str v) else getK (ndE r) (.inr w)) = _
    rw [List.lookup_cons, getK_nd r w]
    by_cases h : k = w
    · subst h; simp
    · rw [if_neg fun z => h (Sum.inr.inj z), beq_eq_false_iff_ne.mpr (Ne.symm h)]
theorem look_mem : ∀ {kvs : List (Str × Str)} {w v : Str}, kvs.lookup w = some v → (w, v) ∈ kvs
  | (k, x) :: r, w, v, h => by
    rw [List.lookup_cons] at h
    by_cases e : w = k
    · subst e; rw [beq_self_eq_true] at h; cases h; simp
    · rw [beq_eq_false_iff_ne.mpr e] at h; exact List.mem_cons_of_mem _ (look_mem h)
theorem look_of : ∀ {kvs : List (Str × Str)} {w v : Str}, (kvs.map (·.1)).Nodup → (w, v) ∈ kvs → kvs.lookup w = some v
  | (k, x) :: r, w, v, hn, h => by
    rw [List.map_cons, List.nodup_cons] at hn
    rw [List.lookup_cons]
    rcases List.mem_cons.mp h with h | h
    · cases h; rw [beq_self_eq_true]
    · have : w ≠ k := fun e => hn.1 (e ▸ List.mem_map.mpr ⟨_, h, rfl⟩)
      rw [beq_eq_false_iff_ne.mpr this]
      exact look_of hn.2 h
theorem look_no {kvs : List (Str × Str)} {w : Str} (h : w ∉ kvs.map (·.1)) : kvs.lookup w = none := by
  cases e : kvs.lookup w with
  | none => rfl
  | some v => exact absurd (List.mem_map.mpr ⟨_, look_mem e, rfl⟩) h
theorem rnV_of {kvs : List (Str × Str)} {w v : Str} (hn : (kvs.map (·.1)).Nodup) (h : (w, v) ∈ kvs) : rnV kvs w = v := by unfold rnV; rw [look_of hn h]; rfl
theorem rnV_no {kvs : List (Str × Str)} {w : Str} (h : w ∉ kvs.map (·.1)) : rnV kvs w = w := by unfold rnV; rw [look_no h]; rfl
/-- the names of a dict fit a system -/
structure RnOk (rs : List Row) (kvs : List (Str × Str)) : Prop where
  kd : (kvs.map (·.1)).Nodup
  km : ∀ p ∈ kvs, p.1 ∈ rs.map (·.w)
  ok : ∀ p ∈ kvs, nameOk p.2 = true
  nd : (rs.map fun r => rnV kvs r.w).Nodup
theorem RnOk.perm {A B : List Row} {kvs : List (Str × Str)} (h : RnOk A kvs) (p : A.Perm B) : RnOk B kvs :=
  ⟨h.kd, fun q hq => (p.map (·.w)).mem_iff.mp (h.km q hq), h.ok, (p.map fun r => rnV kvs r.w).nodup_iff.mp h.nd⟩
theorem rn_names (ρ : Str → Str) (rs : List Row) : (rs.map (rnR ρ)).map (·.w) = rs.map fun r => ρ r.w := by rw [List.map_map]; rfl
theorem rn_ok {kvs : List (Str × Str)} (h : ∀ p ∈ kvs, nameOk p.2 = true) {w : Str} (hw : nameOk w = true) : nameOk (rnV kvs w) = true := by
  unfold rnV
  cases e : kvs.lookup w with
  | none => exact hw
  | some v => exact h _ (look_mem e)
theorem rn_fit {dims md : Int} {rs : List Row} {kvs : List (Str × Str)} (h : SysFit dims md rs) (k : RnOk rs kvs) : SysFit dims md (rs.map (rnR (rnV kvs))) where
  d := h.d
  l := by rw [List.length_map]; exact h.l
  nd := by rw [rn_names]; exact k.nd
  r := fun r hr => by
    obtain ⟨r, h0, rfl⟩ := List.mem_map.mp hr
    refine ⟨rn_ok k.ok (h.r r h0).w, fun x hx => ?_⟩
    obtain ⟨x, h1, rfl⟩ := List.mem_map.mp hx
    have z := (h.r r h0).rd x h1
    exact ⟨rn_ok k.ok z.t, z.l, z.f⟩
  t := by
    rw [List.map_map]
    have : (rs.map ((fun r : Row => r.rs.length) ∘ rnR (rnV kvs))) = rs.map fun r => r.rs.length := List.map_congr_left fun r _ => by show ((r.rs.map (rnRd (rnV kvs))).length) = _; rw [List.length_map]
    rw [this]; exact h.t
  m := h.m
  tg := fun r hr x hx => by
    obtain ⟨r, h0, rfl⟩ := List.mem_map.mp hr
    obtain ⟨x, h1, rfl⟩ := List.mem_map.mp hx
    obtain ⟨r', hr', e⟩ := List.mem_map.mp (h.tg r h0 x h1)
    rw [rn_names]
    exact List.mem_map.mpr ⟨r', hr', by rw [e]; rfl⟩
/-! ### dict comprehensions -/
theorem dcomp_i {mi : MI} {g : Tg} {tt : MT} {tk tv : ME} {vs : List Nat} {xc : XC} {es : Es} {eh : Eh} {q : KE} (h : mi xc es eh fun xs ok eh1 => ∀ p, eh1 p = none → dcL g tt tk tv vs ok p q xs es (eupd eh1 p (some (.dct [])))) : mDComp mi g tt tk tv vs xc es eh q := h
theorem put_new {kvs : List (Key × EV)} {k : Key} {v : EV} (h : k ∉ kvs.map (·.1)) : putKE kvs k v = kvs ++ [(k, v)] := by
  unfold putKE
  rw [if_neg]
  simpa using h
theorem dc_map {α : Type} {g : Tg} {tk tv : ME} {vs : List Nat} {ok : Eh → Prop} {es : Es} {q : KE} {c vf : α → EV} {kf : α → Str} {p : Addr} (J : Eh → Prop) (hJ : ∀ eh v, J eh → J (eupd eh p v)) (ho : ∀ eh, J eh → ok eh) : ∀ {L : List α} {acc : List (Key × EV)} {eh : Eh}, J eh → eh p = some (.dct acc) → acc.length + L.length ≤ 5000 →
    (acc.map (·.1) ++ L.map fun a => (Sum.inr (kf a) : Key)).Nodup → (∀ a ∈ L, ∃ es', asg g (c a) (wipeE es vs) = some es' ∧ ∀ eh, J eh → (∀ q' : KE, q' (.str (kf a)) eh → tk xF es' eh q') ∧ ∀ q' : KE, q' (vf a) eh → tv xF es' eh q') →
    q (.ref p) (eupd eh p (some (.dct (acc ++ L.map fun a => ((Sum.inr (kf a) : Key), vf a))))) → dcL g tYesE tk tv vs ok p q (L.map c) es eh
  | [], acc, eh, j, e, _, _, _, k => ⟨ho eh j, by rw [List.map_nil, List.append_nil, eupd_self e] at k; exact k⟩
  | a :: L, acc, eh, j, e, hl, hn, h, k => by
    simp only [List.length_cons] at hl
    obtain ⟨es', ea, b⟩ := h a (by simp)
    obtain ⟨b1, b2⟩ := b eh j
    have hk : (Sum.inr (kf a) : Key) ∉ acc.map (·.1) := fun z => by
      rw [List.nodup_append] at hn
      exact hn.2.2 _ z _ (by simp) rfl
    refine ⟨ho eh j, es', ea, b1 _ (b2 _ ⟨acc, .inr (kf a), e, rfl, szT (by omega), ?_⟩)⟩
    rw [put_new hk]
    refine dc_map J hJ ho (hJ _ _ j) eupd_same (by simp; omega) (by simpa using hn) (fun x hx => h x (by simp [hx])) ?_
    rw [eupd_eupd]
    simpa using k
theorem dget2_i {a b c : ME} {xc : XC} {es : Es} {eh : Eh} {q : KE} (h : a xc es eh fun x eh1 => (∃ kvs, dctE eh1 x = some kvs) ∧ b xc es eh1 fun y eh2 => c xc es eh2 fun z eh3 => ∃ kvs key, dctE eh3 x = some kvs ∧ keyE y = some key ∧ q ((getK kvs key).getD z) eh3) : mDGet2 a b c xc es eh q := h
theorem lvals_i {m : ME} {xc : XC} {es : Es} {eh : Eh} {q : KE} (h : m xc es eh fun x eh1 => ∃ kvs, dctE eh1 x = some kvs ∧ q (.lst (kvs.map (·.2))) eh1) : mListVals m xc es eh q := h
theorem bsort_i {eh : Eh} {q : KE} {x : EV} {kvs : List (Key × EV)} {ks : List Str} (h : dctE eh x = some kvs) (e : kvs.map (·.1) = ks.map Sum.inr) (hl : ks.length < 64) (k : ∀ ys : List Str, ys.Perm ks → q (.lst (ys.map .str)) eh) : bSortD [x] eh q := ⟨kvs, ks, h, e, hl, fun ys hp _ => k ys hp⟩
theorem nd_keys (kvs : List (Str × Str)) : (ndE kvs).map (·.1) = (kvs.map (·.1)).map Sum.inr := by unfold ndE; rw [List.map_map, List.map_map]; rfl
theorem fz_nd {S : Addr → Bool} {eh : Eh} {k : Nat} (kvs : List (Str × Str)) : ((ndE kvs).map fun p => (p.1, fz S eh k p.2)) = ndE kvs := by
  unfold ndE
  rw [List.map_map]
  exact List.map_congr_left fun p _ => by show ((Sum.inr p.1 : Key), fz S eh k (.str p.2)) = _; rw [fz_okB (n := 0) rfl]

/-! ### System.renamed -/
theorem cnt_le {ys : List Str} (h : ys.Nodup) (b : Str) : ys.count b ≤ 1 := by
  induction ys with
  | nil => simp
  | cons y ys ih =>
    rw [List.nodup_cons] at h
    rw [List.count_cons]
    by_cases e : y = b
    · subst e
      rw [List.count_eq_zero.mpr h.1]; simp
    · have := ih h.2
      simp [e]; omega
theorem renamed_ok {xc : XC} {dims md : Int} {rs : List Row} {N : EV} {kvs : List (Str × Str)} {eh : Eh} {q : KE} (h : SysFit dims md rs) (hk : RnOk rs kvs) (hkl : kvs.length ≤ 20) (hN : ∀ eh', Kp eh eh' → dctE eh' N = some (ndE kvs)) (hNs : ∀ z, N ≠ .str z)
    (k : q (sysE dims md (sortR (rs.map (rnR (rnV kvs))))) eh) : fn_System_renamed xc [sysE dims md rs, N] eh q := by
  have hl := h.l
  have hN0 := hN eh .refl
  have hks : (ndE kvs).map (·.1) = (kvs.map (·.1)).map Sum.inr := nd_keys kvs
  unfold fn_System_renamed ms_System_renamed
  walk_at "go"
  refine bsort_i hN0 hks (by rw [List.length_map]; omega) fun ys hys => ?_
  walk_at "go"
  refine for_inv (c := EV.str) (fun L es eh' => (∀ y ∈ L, y ∈ kvs.map (·.1)) ∧ eh = eh' ∧ ∃ z2, es = [some (sysE dims md rs), some N, z2, none, none, none, none, none, none, none, none, none]) ⟨fun y hy => hys.mem_iff.mp hy, rfl, _, rfl⟩ ?_ ?_
  · rintro y L es eh' ⟨hL, rfl, z2, rfl⟩
    refine ⟨trivial, asgx_i rfl fun d' _ hn _ _ => ?_⟩
    obtain ⟨p, hp, e⟩ := List.mem_map.mp (hL y (by simp))
    obtain ⟨r, hr, e2⟩ := List.mem_map.mp (hk.km p hp)
    unfold bd_System_renamed_1
    walk_at "go"
    have : y = r.w := by rw [e2, ← e]
    subst this
    refine table_fz rfl h.nd hr ?_
    walk_at "go"
    exact hn _ _ ⟨fun x hx => hL x (by simp [hx]), rfl, _, rfl⟩
  rintro es eh' ⟨_, rfl, z2, rfl⟩
  refine ⟨trivial, ?_⟩
  walk_at "go"
  refine fz_i ?_
  refine dcomp_i ?_
  walk_at "go"
  refine ⟨_, .dct (tabE rs), rfl, by rfl, ?_⟩
  refine ⟨(tabE rs).map fun p => keyV p.1, fun _ => True, rfl, ?_⟩
  intro p hp
  rw [show (tabE rs).map (fun p => keyV p.1) = rs.map fun r => EV.str r.w by unfold tabE; rw [List.map_map]; rfl]
  refine dc_map (c := fun r : Row => EV.str r.w) (kf := fun r => r.w) (vf := fun r => .str (rnV kvs r.w)) (fun eh' => Kp eh eh') (fun eh' v j => j.set hp) (fun _ _ => trivial) (L := rs) (acc := []) (.new hp) eupd_same (by simp; omega) (by
    have := h.nd
    rw [List.map_nil, List.nil_append]
    exact List.Pairwise.map (R := fun a b : Row => a.w ≠ b.w) (S := (· ≠ ·)) (fun r : Row => (Sum.inr r.w : Key)) (fun a b h e => h (Sum.inr.inj e)) (List.pairwise_map.mp this)) (fun r hr => asgx_i rfl fun eh' j => ⟨fun q' hq => ?_, fun q' hq => ?_⟩) ?_
  · walk_at "go"; exact hq
  · unfold ce_System_renamed_3
    refine dget2_i ?_
    walk_at "go"
    refine ⟨⟨_, hN eh' j⟩, ?_⟩
    walk_at "go"
    refine ⟨_, .inr r.w, hN eh' j, rfl, ?_⟩
    rw [getK_nd]
    unfold rnV at hq
    cases e : kvs.lookup r.w with
    | none => rw [e] at hq; exact hq
    | some v => rw [e] at hq; exact hq
  rw [eupd_eupd, List.nil_append]
  have efz : fz (nw eh) (eupd eh p (some (.dct (rs.map fun r => ((Sum.inr r.w : Key), EV.str (rnV kvs r.w)))))) 9 (.ref p) = .dct (ndE (rs.map fun r => (r.w, rnV kvs r.w))) := by
    have e1 : (rs.map fun r => ((Sum.inr r.w : Key), EV.str (rnV kvs r.w))) = ndE (rs.map fun r => (r.w, rnV kvs r.w)) := by unfold ndE; rw [List.map_map]; rfl
    rw [e1, fz_dct (k := 8) (by simp [nw, hp]) eupd_same, fz_nd]
  rw [efz, drE_new hp]
  have look : ∀ w ∈ rs.map (·.w), getK (ndE (rs.map fun r => (r.w, rnV kvs r.w))) (.inr w) = some (.str (rnV kvs w)) := fun w hw => by
    obtain ⟨r, hr, rfl⟩ := List.mem_map.mp hw
    rw [getK_nd, look_of (v := rnV kvs r.w) (by rw [List.map_map]; exact h.nd) (List.mem_map.mpr ⟨r, hr, rfl⟩)]; rfl
  walk_at "go"
  refine bsort_i hN0 hks (by rw [List.length_map]; omega) fun ys2 hys2 => ?_
  walk_at "go"
  refine for_inv (c := EV.str) (fun L es eh' => (∀ y ∈ L, y ∈ kvs.map (·.1)) ∧ eh = eh' ∧ ∃ z2, es = [some (sysE dims md rs), some N, z2, some (.dct (ndE (rs.map fun r => (r.w, rnV kvs r.w)))), none, none, none, none, none, none, none, none]) ⟨fun y hy => hys2.mem_iff.mp hy, rfl, _, rfl⟩ ?_ ?_
  · rintro y L es eh' ⟨hL, rfl, z2, rfl⟩
    refine ⟨trivial, asgx_i rfl fun d' _ hn _ _ => ?_⟩
    obtain ⟨⟨y', v⟩, hp2, e⟩ := List.mem_map.mp (hL y (by simp))
    have e : y' = y := e
    subst e
    have hv : getK (ndE kvs) (.inr y') = some (.str v) := by rw [getK_nd, look_of hk.kd hp2]; rfl
    unfold bd_System_renamed_4
    walk_at "go"
    refine ixd_i hN0 rfl hv ?_
    walk_at "go"
    refine name_fz rfl (hk.ok _ hp2) ?_
    walk_at "go"
    refine lvals_i ?_
    walk_at "go"
    refine ⟨_, rfl, ?_⟩
    rw [show (ndE (rs.map fun r => (r.w, rnV kvs r.w))).map (·.2) = (rs.map fun r => rnV kvs r.w).map EV.str by unfold ndE; rw [List.map_map, List.map_map, List.map_map]; rfl]
    refine ⟨⟨_, rfl⟩, ?_⟩
    walk_at "go"
    refine ixd_i hN0 rfl hv ?_
    walk_at "go"
    refine ⟨_, _, rfl, rfl, ?_⟩
    walk_at "go"
    have := cnt_le hk.nd v
    refine cD_i (fun z => absurd z (by omega)) (fun _ => ?_)
    walk_at "go"
    exact hn _ _ ⟨fun x hx => hL x (by simp [hx]), rfl, _, rfl⟩
  rintro es eh' ⟨_, rfl, z2, rfl⟩
  refine ⟨trivial, ?_⟩
  walk_at "go"
  intro t ht
  walk_at "go"
  refine tlist_fz rfl (by omega) ?_
  walk_at "go"
  refine for_inv (c := rowE) (fun L es eh' => ∃ done, rs = done ++ L ∧ eh' = eupd eh t (some (.lst ((done.map (rnR (rnV kvs))).map rowE))) ∧ ∃ z2 z5 z6 z7 z8 z9 z10 z11, es = [some (sysE dims md rs), some N, z2, some (.dct (ndE (rs.map fun r => (r.w, rnV kvs r.w)))), some (.ref t), z5, z6, z7, z8, z9, z10, z11]) ⟨[], rfl, rfl, _, _, _, _, _, _, _, _, rfl⟩ ?_ ?_
  · rintro r L es eh' ⟨done, hd, rfl, z2, z5, z6, z7, z8, z9, z10, z11, rfl⟩
    have hr : r ∈ rs := by rw [hd]; simp
    have hrl : r.rs.length ≤ 12 := Nat.le_trans (le_sum (List.mem_map.mpr ⟨r, hr, rfl⟩)) h.t
    have hdl : done.length ≤ 6 := by have := congrArg List.length hd; simp at this; omega
    refine ⟨trivial, asgx_i rfl fun d' _ hn _ _ => ?_⟩
    unfold bd_System_renamed_6
    walk_at "go"
    refine comp_map (c := rdE) (f := fun x => rdE (rnRd (rnV kvs) x)) trivial (by simp; omega) (fun x hx => asgx_i rfl fun q' hq => ?_) ?_
    · unfold ce_System_renamed_5
      walk_at "go"
      refine ixd_i rfl rfl (look x.t (h.tg r hr x hx)) ?_
      walk_at "go"
      exact hq
    walk_at "go"
    refine ⟨⟨(done.map (rnR (rnV kvs))).map rowE, by simp only [lstE, eupd_same]⟩, ?_⟩
    walk_at "go"
    refine ixd_i rfl rfl (look r.w (List.mem_map.mpr ⟨r, hr, rfl⟩)) ?_
    walk_at "go"
    refine ⟨(done.map (rnR (rnV kvs))).map rowE, eupd_same, szT (by simp; omega), ?_⟩
    rw [eupd_eupd]
    refine hn _ _ ⟨done ++ [r], by simp [hd], ?_, _, _, _, _, _, _, _, _, rfl⟩
    have e : (r.rs.map fun x => rdE (rnRd (rnV kvs) x)) = (r.rs.map (rnRd (rnV kvs))).map rdE := by rw [List.map_map]; rfl
    simp only [List.nil_append, e]
    simp [rnR, rowE]
  · rintro es eh' ⟨done, hd, rfl, z2, z5, z6, z7, z8, z9, z10, z11, rfl⟩
    rw [List.append_nil] at hd
    subst hd
    refine ⟨trivial, ?_⟩
    walk_at "go"
    refine fzV_i rfl eupd_same ?_
    have e0 : eupd (eupd eh t (some (.lst ((rs.map (rnR (rnV kvs))).map rowE)))) t none = eh := by rw [eupd_eupd]; exact eupd_self ht
    rw [e0]
    walk_at "go"
    refine ⟨_, .int dims, rfl, by rfl, ?_⟩
    walk_at "go"
    refine ⟨_, .int md, rfl, by rfl, ?_⟩
    walk_at "go"
    refine ⟨rfl, ?_⟩
    refine init_mz rfl (rn_fit h hk) ?_
    exact k
theorem renamed_fz {S : Addr → Bool} {xc : XC} {dims md : Int} {rs : List Row} {N : EV} {kvs : List (Str × Str)} {eh : Eh} {q : KE} (hS : S = nw eh) (h : SysFit dims md rs) (hk : RnOk rs kvs) (hkl : kvs.length ≤ 20) (hN : ∀ eh', Kp eh eh' → dctE eh' N = some (ndE kvs)) (hNs : ∀ z, N ≠ .str z)
    (k : q (sysE dims md (sortR (rs.map (rnR (rnV kvs))))) eh) : FZ S fn_System_renamed xc [sysE dims md rs, N] eh q := by
  subst hS
  exact renamed_ok h hk hkl hN hNs (fin_sys .refl k)

/-! ### System.exchanged -/
def exV (π v : List Int) : List Int := π.map fun i => v.getD i.toNat 0
def exRd (π : List Int) (x : Rd) : Rd := ⟨x.t, exV π x.v, x.f⟩
def exR (π : List Int) (r : Row) : Row := ⟨r.w, r.n, r.rs.map (exRd π)⟩
def axs (dims : Int) : List Int := (List.range dims.toNat).map fun i => ((i : Nat) : Int)
def AxOk (dims : Int) (π : List Int) : Prop := π.Perm (axs dims)
theorem AxOk.mem {dims : Int} {π : List Int} (h : AxOk dims π) : ∀ i ∈ π, 0 ≤ i ∧ i < dims := fun i hi => by
  obtain ⟨j, hj, rfl⟩ := List.mem_map.mp (h.mem_iff.mp hi)
  have := List.mem_range.mp hj
  omega
theorem AxOk.len {dims : Int} {π : List Int} (h : AxOk dims π) : π.length = dims.toNat := by rw [h.length_eq]; unfold axs; rw [List.length_map, List.length_range]
theorem sortT_ints (π : List Int) : sortT (π.map .int) = (π.mergeSort fun a b => decide (a ≤ b)).map .int :=
  (PySem.W.sort_maps (r := fun a b : Int => decide (a ≤ b)) (s := PySem.W.dataLe false D) EV.int fun a _ b _ => (congrFun (congrFun (PySem.W.dataLe_int (fun b : Int => b)) a) b).symm).symm
theorem axs_pw (dims : Int) : (axs dims).Pairwise (· ≤ ·) := by
  unfold axs
  exact List.Pairwise.map _ (fun a b h => by omega) (List.pairwise_lt_range)
theorem axes_sort {dims : Int} {π : List Int} (h : AxOk dims π) : sortT (π.map .int) = (List.range dims.toNat).map fun i => .int ((i : Nat) : Int) := by
  have e : (π.mergeSort fun a b => decide (a ≤ b)) = axs dims := by
    have p1 : (π.mergeSort fun a b => decide (a ≤ b)).Perm (axs dims) := (List.mergeSort_perm π _).trans h
    have p2 := List.pairwise_mergeSort (le := fun a b : Int => decide (a ≤ b)) (by intro x y z h1 h2; simp only [decide_eq_true_eq] at *; omega) (by intro x y; simp only [Bool.or_eq_true, decide_eq_true_eq]; omega) π
    exact List.Perm.eq_of_pairwise (le := fun a b : Int => a ≤ b) (fun a b _ _ h1 h2 => by omega) (p2.imp fun h => by simpa using h) (axs_pw dims) p1
  rw [sortT_ints, e]
  unfold axs
  rw [List.map_map]; rfl
theorem bsortU_i {dims : Int} {π : List Int} {eh : Eh} {q : KE} (h : AxOk dims π) (k : q (.lst ((List.range dims.toNat).map fun i => .int ((i : Nat) : Int))) eh) : bSortU [.tup (π.map .int)] eh q := by
  have hD : ∀ d ∈ (π.map EV.int).map D, ∃ i : Int, d = .int i := fun d hd => by
    obtain ⟨x, hx, rfl⟩ := List.mem_map.mp hd
    obtain ⟨i, _, rfl⟩ := List.mem_map.mp hx
    exact ⟨i, rfl⟩
  refine ⟨_, rfl, ?_, fun d hd d' hd' => ?_, .inr fun d hd => ?_, fun y hy => ?_, by rw [axes_sort h]; exact k⟩
  · rw [List.all_eq_true]
    intro y hy
    obtain ⟨i, _, rfl⟩ := List.mem_map.mp hy
    rfl
  · obtain ⟨i, rfl⟩ := hD d hd
    obtain ⟨j, rfl⟩ := hD d' hd'
    rfl
  · obtain ⟨i, rfl⟩ := hD d hd
    exact ⟨by simp, by simp⟩
  · obtain ⟨i, _, rfl⟩ := List.mem_map.mp hy
    exact Nat.zero_le _
theorem ex_names (π : List Int) (rs : List Row) : (rs.map (exR π)).map (·.w) = rs.map (·.w) := by rw [List.map_map]; rfl
theorem ex_fit {dims md : Int} {rs : List Row} {π : List Int} (h : SysFit dims md rs) (k : AxOk dims π) : SysFit dims md (rs.map (exR π)) where
  d := h.d
  l := by rw [List.length_map]; exact h.l
  nd := by rw [ex_names]; exact h.nd
  r := fun r hr => by
    obtain ⟨r, h0, rfl⟩ := List.mem_map.mp hr
    refine ⟨(h.r r h0).w, fun x hx => ?_⟩
    obtain ⟨x, h1, rfl⟩ := List.mem_map.mp hx
    have z := (h.r r h0).rd x h1
    have hd := h.d
    exact ⟨z.t, by show ((exV π x.v).length : Int) = dims; unfold exV; rw [List.length_map, k.len]; omega, z.f⟩
  t := by
    rw [List.map_map]
    have : (rs.map ((fun r : Row => r.rs.length) ∘ exR π)) = rs.map fun r => r.rs.length := List.map_congr_left fun r _ => by show ((r.rs.map (exRd π)).length) = _; rw [List.length_map]
    rw [this]; exact h.t
  m := h.m
  tg := fun r hr x hx => by
    obtain ⟨r, h0, rfl⟩ := List.mem_map.mp hr
    obtain ⟨x, h1, rfl⟩ := List.mem_map.mp hx
    rw [ex_names]
    exact h.tg r h0 x h1
theorem lrg_i {m : ME} {xc : XC} {es : Es} {eh : Eh} {q : KE} (h : m xc es eh fun x eh1 => ∃ n : Nat, x = .int n ∧ n ≤ 1000 ∧ q (.lst ((List.range n).map fun i => .int ((i : Nat) : Int))) eh1) : mLstRg m xc es eh q := h
theorem trg_i {m : ME} {xc : XC} {es : Es} {eh : Eh} {q : KE} (h : m xc es eh fun x eh1 => ∃ n : Nat, x = .int n ∧ n ≤ 1000 ∧ q (.tup ((List.range n).map fun i => .int ((i : Nat) : Int))) eh1) : mTupRg m xc es eh q := h
theorem revT_i {m : ME} {xc : XC} {es : Es} {eh : Eh} {q : KE} (h : m xc es eh fun x eh1 => ∃ xs, x = .tup xs ∧ q (.tup xs.reverse) eh1) : mRevT m xc es eh q := h
theorem ex_at {v : List Int} {i dims : Int} (hl : (v.length : Int) = dims) (hi : 0 ≤ i ∧ i < dims) : atI (v.map EV.int) i = some (.int (v.getD i.toNat 0)) := by
  obtain ⟨j, rfl⟩ := Int.eq_ofNat_of_zero_le hi.1
  have hj : j < v.length := by omega
  rw [at_cells (List.getElem?_eq_getElem hj), Int.toNat_natCast, List.getD_eq_getElem?_getD, List.getElem?_eq_getElem hj]; rfl
theorem okD_rng (n : Nat) : okD 1 (.lst ((List.range n).map fun i => EV.int ((i : Nat) : Int))) = true := okD_map fun _ _ => rfl
theorem exchanged_fz {S : Addr → Bool} {xc : XC} {dims md : Int} {rs : List Row} {π : List Int} {eh : Eh} {q : KE} (hS : S = nw eh) (h : SysFit dims md rs) (hp : AxOk dims π) (k : q (sysE dims md (sortR (rs.map (exR π)))) eh) :
    FZ S fn_System_exchanged xc [sysE dims md rs, .tup (π.map .int)] eh q := by
  subst hS
  have hl := h.l
  have hd3 := h.d
  have hpl := hp.len
  unfold FZ fn_System_exchanged ms_System_exchanged
  walk_at "go"
  refine bsortU_i hp ?_
  refine lrg_i ?_
  walk_at "go"
  refine ⟨_, .int dims, rfl, by rfl, ?_⟩
  refine ⟨dims.toNat, by rw [Int.toNat_of_nonneg (by omega)], by omega, ?_⟩
  refine eqS_same (neg := true) (x' := .lst ((List.range dims.toNat).map fun i => .int ((i : Nat) : Int))) (n := 1) rfl rfl (okB_of (okD_rng _)) (by decide) ?_
  rw [Bool.xor_self]
  walk_at "go"
  intro t ht
  walk_at "go"
  refine tlist_fz rfl (by omega) ?_
  walk_at "go"
  refine for_inv (c := rowE) (fun L es eh' => ∃ done, rs = done ++ L ∧ eh' = eupd eh t (some (.lst ((done.map (exR π)).map rowE))) ∧ ∃ z3 z4 z5 z6 z7 z8 z9 z10, es = [some (sysE dims md rs), some (.tup (π.map .int)), some (.ref t), z3, z4, z5, z6, z7, z8, z9, z10]) ⟨[], rfl, rfl, _, _, _, _, _, _, _, _, rfl⟩ ?_ ?_
  · rintro r L es eh' ⟨done, hd, rfl, z3, z4, z5, z6, z7, z8, z9, z10, rfl⟩
    have hr : r ∈ rs := by rw [hd]; simp
    have hrl : r.rs.length ≤ 12 := Nat.le_trans (le_sum (List.mem_map.mpr ⟨r, hr, rfl⟩)) h.t
    have hdl : done.length ≤ 6 := by have := congrArg List.length hd; simp at this; omega
    refine ⟨trivial, asgx_i rfl fun d' _ hn _ _ => ?_⟩
    unfold bd_System_exchanged_3
    walk_at "go"
    refine comp_map (c := rdE) (f := fun x => rdE (exRd π x)) trivial (by simp; omega) (fun x hx => asgx_i rfl fun q' hq => ?_) ?_
    · unfold ce_System_exchanged_2
      walk_at "go"
      refine comp_map (c := EV.int) (f := fun i => .int (x.v.getD i.toNat 0)) trivial (by simp; omega) (fun i hi => asgx_i rfl fun q2 hq2 => ?_) ?_
      · walk_at "go"
        exact ix_i rfl (ex_at ((h.r r hr).rd x hx).l (hp.mem i hi)) hq2
      walk_at "go"
      rw [List.nil_append, show (π.map fun i => EV.int (x.v.getD i.toNat 0)) = (exV π x.v).map .int by unfold exV; rw [List.map_map]; rfl]
      exact hq
    walk_at "go"
    refine ⟨⟨(done.map (exR π)).map rowE, by simp only [lstE, eupd_same]⟩, ?_⟩
    walk_at "go"
    refine ⟨(done.map (exR π)).map rowE, eupd_same, szT (by simp; omega), ?_⟩
    rw [eupd_eupd]
    refine hn _ _ ⟨done ++ [r], by simp [hd], ?_, _, _, _, _, _, _, _, _, rfl⟩
    have e : (r.rs.map fun x => rdE (exRd π x)) = (r.rs.map (exRd π)).map rdE := by rw [List.map_map]; rfl
    simp only [List.nil_append, e]
    simp [exR, rowE]
  · rintro es eh' ⟨done, hd, rfl, z3, z4, z5, z6, z7, z8, z9, z10, rfl⟩
    rw [List.append_nil] at hd
    subst hd
    refine ⟨trivial, ?_⟩
    walk_at "go"
    refine fzV_i rfl eupd_same ?_
    have e0 : eupd (eupd eh t (some (.lst ((rs.map (exR π)).map rowE)))) t none = eh := by rw [eupd_eupd]; exact eupd_self ht
    rw [e0]
    walk_at "go"
    refine ⟨_, .int dims, rfl, by rfl, ?_⟩
    walk_at "go"
    refine ⟨_, .int md, rfl, by rfl, ?_⟩
    walk_at "go"
    refine ⟨rfl, ?_⟩
    refine init_mz rfl (ex_fit h hp) ?_
    exact fin_sys .refl k

/-! ### names in a sequence -/
theorem str_le {a b : Str} (h : ¬ b.cps.toList < a.cps.toList) (h' : ¬ a.cps.toList < b.cps.toList) : a = b := str_ext (List.le_antisymm (as := a.cps.toList) (bs := b.cps.toList) h h')
theorem risingS_pw : ∀ {r : List Str} {p : Str}, risingS p r = true → (p :: r).Pairwise fun a b => ¬ b.cps.toList < a.cps.toList
  | [], p, _ => by simp
  | x :: r, p, h => by
    have h : (!ltCps x.cps.toList p.cps.toList && risingS x r) = true := h
    rw [Bool.and_eq_true, ltCps_eq] at h
    have px : ¬ x.cps.toList < p.cps.toList := by simpa using h.1
    have ih := risingS_pw h.2
    refine List.pairwise_cons.mpr ⟨fun y hy => ?_, ih⟩
    rcases List.mem_cons.mp hy with rfl | hy
    · exact px
    · exact List.le_trans (α := Nat) (l₁ := p.cps.toList) (l₂ := x.cps.toList) (l₃ := y.cps.toList) px ((List.pairwise_cons.mp ih).1 y hy)
theorem sortedS_pw : ∀ {ys : List Str}, sortedS ys = true → ys.Pairwise fun a b => ¬ b.cps.toList < a.cps.toList
  | [], _ => .nil
  | x :: r, h => risingS_pw h
theorem rowLe_lt {r r' : Row} (h : PySem.W.dataLe false key0 (rowE r) (rowE r') = true) : ¬ r'.w.cps.toList < r.w.cps.toList := fun z => by
  have e : ∀ r : Row, PySem.W.keyToks (key0 (rowE r)) = [.inr r.w.cps.toList] := fun r => rfl
  unfold PySem.W.dataLe PySem.W.sortLe at h
  simp only [cond_false, Bool.not_eq_true', e] at h
  have h2 : (decide (r'.w.cps.toList < r.w.cps.toList) || (!decide (r.w.cps.toList < r'.w.cps.toList) && false)) = false := h
  simp [z] at h2
theorem names_sorted {rows : List Row} {ys : List Str} (hp : ys.Perm (rows.map (·.w))) (hs : sortedS ys = true) : ys = (sortR rows).map (·.w) := by
  refine List.Perm.eq_of_pairwise (le := fun a b : Str => ¬ b.cps.toList < a.cps.toList) (fun a b _ _ h h' => str_le h h') (sortedS_pw hs) ?_ (hp.trans ((sortR_perm rows).map (·.w)).symm)
  rw [List.pairwise_map]
  exact (sortR_pw rows).imp fun h => rowLe_lt h

/-! ### errors of systems: tables, reads -/
theorem table_bad {S : Addr → Bool} {xc : XC} {dims md : Int} {rs : List Row} {w : Str} {eh : Eh} {q : KE} (hw : w ∉ rs.map (·.w)) (k : xc "UnknownTable" (.str w) eh) : ([sysE dims md rs, EV.str w] ++ []).length = 2 ∧ FZ S fn_check_table xc ([sysE dims md rs, EV.str w] ++ []) eh q := by
  refine ⟨rfl, ?_⟩
  unfold FZ fn_check_table ms_check_table
  walk_at "go"
  refine ⟨_, .dct (tabE rs), rfl, by rfl, ?_⟩
  refine ninD_i (kvs := tabE rs) (by simp) rfl rfl ?_
  rw [getK_hasB, decide_eq_false hw]
  refine ⟨_, rfl, ?_⟩
  refine cT_i ?_
  refine raise_i ?_
  walk_at "go"
  exact k
theorem const_bad {xc : XC} {dims md : Int} {rs : List Row} {w : Str} {eh : Eh} {q : KE} (hw : w ∉ rs.map (·.w)) (k : xc "UnknownTable" (.str w) eh) : fn_System_constant xc [sysE dims md rs, .str w] eh q := by
  unfold fn_System_constant ms_System_constant
  walk_at "go"
  exact table_bad hw k
theorem reads_bad {xc : XC} {dims md : Int} {rs : List Row} {w : Str} {eh : Eh} {q : KE} (hw : w ∉ rs.map (·.w)) (k : xc "UnknownTable" (.str w) eh) : fn_System_reads xc [sysE dims md rs, .str w] eh q := by
  unfold fn_System_reads ms_System_reads
  walk_at "go"
  exact table_bad hw k
/-! ### reads by name and number -/
def nI (x : Str × Int) : EV := .tup [.str x.1, .int x.2]
def rdI (rs : List Row) : List (Str × Int) := rs.flatMap fun r => (List.range r.rs.length).map fun (i : Nat) => (r.w, (i : Int))
theorem namE_rdI (rs : List Row) : namE rs = (rdI rs).map nI := by
  unfold namE rdI
  rw [List.map_flatMap]
  congr 1
  funext r
  unfold namR
  rw [List.map_map]; rfl
theorem nI_inj {x y : Str × Int} (h : nI x = nI y) : x = y := by
  unfold nI at h
  simp only [EV.tup.injEq, List.cons.injEq, EV.str.injEq, EV.int.injEq, and_true] at h
  exact Prod.ext h.1 h.2
theorem nI_mem {x : Str × Int} {L : List (Str × Int)} : nI x ∈ L.map nI ↔ x ∈ L :=
  ⟨fun h => by obtain ⟨y, hy, e⟩ := List.mem_map.mp h; rw [← nI_inj e]; exact hy, fun h => List.mem_map.mpr ⟨x, h, rfl⟩⟩
theorem okD_nI (x : Str × Int) : okD 1 (nI x) = true := rfl
theorem nIn_i {x : Str × Int} {L : List (Str × Int)} {y : EV} {neg : Bool} {eh : Eh} {q : KE} (hy : seqE eh y = some (L.map nI)) (k : q (.bl (neg ^^ decide (x ∈ L))) eh) : cIn neg (nI x) y eh q :=
  in_i (n := 1) (decide (x ∈ L)) hy (okD_nI x) (fun z hz => by obtain ⟨c, _, rfl⟩ := List.mem_map.mp hz; exact okD_nI c) (by decide) (by rw [decide_eq_true_eq]; exact nI_mem.symm) k
theorem cread_bad {S : Addr → Bool} {xc : XC} {dims md : Int} {rs : List Row} {x : Str × Int} {eh : Eh} {q : KE} (hx : x ∉ rdI rs) (k : xc "InvalidRead" (nI x) eh) : ([sysE dims md rs, nI x] ++ []).length = 2 ∧ FZ S fn_check_read xc ([sysE dims md rs, nI x] ++ []) eh q := by
  refine ⟨rfl, ?_⟩
  unfold FZ fn_check_read ms_check_read
  walk_at "go"
  refine ⟨_, .tup (namE rs), rfl, by rfl, ?_⟩
  refine nIn_i (L := rdI rs) (by rw [namE_rdI]; rfl) ?_
  rw [decide_eq_false hx]
  refine ⟨_, rfl, ?_⟩
  refine cT_i ?_
  refine raise_i ?_
  walk_at "go"
  exact k
theorem cread_good {S : Addr → Bool} {xc : XC} {dims md : Int} {rs : List Row} {x : Str × Int} {eh : Eh} {q : KE} (hS : S = nw eh) (hx : x ∈ rdI rs) (k : q .non eh) : ([sysE dims md rs, nI x] ++ []).length = 2 ∧ FZ S fn_check_read xc ([sysE dims md rs, nI x] ++ []) eh q := by
  refine ⟨rfl, ?_⟩
  subst hS
  unfold FZ fn_check_read ms_check_read
  walk_at "go"
  refine ⟨_, .tup (namE rs), rfl, by rfl, ?_⟩
  refine nIn_i (L := rdI rs) (by rw [namE_rdI]; rfl) ?_
  rw [decide_eq_true hx]
  refine ⟨_, rfl, ?_⟩
  refine cF_i ?_
  walk_at "go"
  exact fin_data (n := 0) .refl rfl k
theorem rdI_gon {rs : List Row} : ∀ {L : List (Str × Int)}, (∀ x ∈ L, x ∈ rdI rs) → ∃ G : List (Str × Nat), L.map nI = G.map gonE ∧ G.length = L.length ∧ ∀ p ∈ G, p ∈ namP rs
  | [], _ => ⟨[], rfl, rfl, by simp⟩
  | x :: L, h => by
    obtain ⟨G, e, l, m⟩ := rdI_gon (L := L) fun y hy => h y (by simp [hy])
    obtain ⟨r, hr, hx⟩ := List.mem_flatMap.mp (h x (by simp))
    obtain ⟨i, hi, rfl⟩ := List.mem_map.mp hx
    refine ⟨(r.w, i) :: G, by rw [List.map_cons, List.map_cons, e]; rfl, by simp [l], fun p hp => ?_⟩
    rcases List.mem_cons.mp hp with rfl | hp
    · exact List.mem_flatMap.mpr ⟨r, hr, List.mem_map.mpr ⟨i, hi, rfl⟩⟩
    · exact m p hp
/-- the first read of a list that is none -/
def badI (rs : List Row) (L : List (Str × Int)) : List (Str × Int) := L.filter fun x => !decide (x ∈ rdI rs)
theorem without_bad {xc : XC} {dims md : Int} {rs : List Row} {L : List (Str × Int)} {x : Str × Int} {Z : List (Str × Int)} {eh : Eh} {q : KE} (hb : badI rs L = x :: Z) (k : xc "InvalidRead" (nI x) eh) : fn_System_without xc [sysE dims md rs, .lst (L.map nI)] eh q := by
  unfold fn_System_without ms_System_without
  walk_at "go"
  refine for_inv (c := nI) (fun L2 es eh' => (∃ done, L = done ++ L2 ∧ ∀ y ∈ done, y ∈ rdI rs) ∧ eh = eh' ∧ ∃ z2, es = [some (sysE dims md rs), some (.lst (L.map nI)), z2, none, none, none, none, none, none]) ⟨⟨[], rfl, by simp⟩, rfl, _, rfl⟩ ?_ ?_
  · rintro y L2 es eh' ⟨⟨done, hdn, hd⟩, rfl, z2, rfl⟩
    refine ⟨trivial, asgx_i rfl fun d' _ hn _ _ => ?_⟩
    unfold bd_System_without_1
    walk_at "go"
    by_cases hy : y ∈ rdI rs
    · refine cread_good rfl hy ?_
      walk_at "go"
      exact hn _ _ ⟨⟨done ++ [y], by simp [hdn], fun u hu => by
        rcases List.mem_append.mp hu with hu | hu
        · exact hd u hu
        · rw [List.mem_singleton.mp hu]; exact hy⟩, rfl, _, rfl⟩
    · have e : badI rs L = y :: badI rs L2 := by
        rw [hdn]
        unfold badI
        rw [List.filter_append, List.filter_eq_nil_iff.mpr fun u hu => by simp [hd u hu], List.filter_cons, if_pos (by simp [hy])]; rfl
      rw [hb] at e
      cases e
      exact cread_bad hy k
  · rintro es eh' ⟨⟨done, hdn, hd⟩, rfl, z2, rfl⟩
    exfalso
    rw [List.append_nil] at hdn
    subst hdn
    unfold badI at hb
    rw [List.filter_eq_nil_iff.mpr fun y hy => by simp [hd y hy]] at hb
    cases hb
theorem without_good {S : Addr → Bool} {xc : XC} {dims md : Int} {rs : List Row} {L : List (Str × Int)} {eh : Eh} {q : KE} (hS : S = nw eh) (h : SysFit dims md rs) (hb : badI rs L = []) (hl : L.length ≤ 1000) (k : ∀ x, q x eh) : FZ S fn_System_without xc [sysE dims md rs, .lst (L.map nI)] eh q := by
  have hL : ∀ x ∈ L, x ∈ rdI rs := fun x hx => by
    have := List.filter_eq_nil_iff.mp hb x hx
    simpa using this
  obtain ⟨G, e, l, m⟩ := rdI_gon hL
  rw [e]
  exact without_fz hS h (gone := G) (fun _ _ => rfl) m (by omega) (k _)
/-! ### names in common -/
def comB (A B : List Row) : List Str := (A.map (·.w)).filter fun w => decide (w ∈ B.map (·.w))
theorem beside_bad {xc : XC} {dims md md' : Int} {A B : List Row} {w : Str} {Z : List Str} {eh : Eh} {q : KE} (hb : comB A B = w :: Z) (k : xc "InvalidName" (.str w) eh) : fn_System_beside xc [sysE dims md A, sysE dims md' B] eh q := by
  unfold fn_System_beside ms_System_beside
  walk_at "go"
  refine ⟨_, .dct (tabE A), rfl, by rfl, ?_⟩
  refine walkD_i ?_
  have e : ((tabE A).map fun p => keyV p.1) = (A.map (·.w)).map .str := by simp [tabE, keyV]
  rw [e]
  refine for_inv (c := EV.str) (fun L es eh' => (∃ done, A.map (·.w) = done ++ L ∧ ∀ u ∈ done, u ∉ B.map (·.w)) ∧ eh = eh' ∧ ∃ z2, es = [some (sysE dims md A), some (sysE dims md' B), z2]) ⟨⟨[], rfl, by simp⟩, rfl, _, rfl⟩ ?_ ?_
  · rintro y L es eh' ⟨⟨done, hdn, hd⟩, rfl, z2, rfl⟩
    refine ⟨trivial, asgx_i rfl fun d' _ hn _ _ => ?_⟩
    unfold bd_System_beside_1
    walk_at "go"
    refine ⟨_, .dct (tabE B), rfl, by rfl, ?_⟩
    refine inD_i (kvs := tabE B) (by simp) rfl rfl ?_
    rw [getK_hasB]
    refine ⟨_, rfl, ?_⟩
    refine cD_i (fun hy => ?_) (fun hy => ?_)
    · have e : comB A B = y :: L.filter fun w => decide (w ∈ B.map (·.w)) := by
        unfold comB
        rw [hdn, List.filter_append, List.filter_eq_nil_iff.mpr fun u hu => by simpa using hd u hu, List.filter_cons, if_pos (by simpa using hy)]; rfl
      rw [hb] at e
      cases e
      refine raise_i ?_
      walk_at "go"
      exact k
    · walk_at "go"
      exact hn _ _ ⟨⟨done ++ [y], by simp [hdn], fun u hu => by
        rcases List.mem_append.mp hu with hu | hu
        · exact hd u hu
        · rw [List.mem_singleton.mp hu]; exact hy⟩, rfl, _, rfl⟩
  · rintro es eh' ⟨⟨done, hdn, hd⟩, rfl, z2, rfl⟩
    exfalso
    rw [List.append_nil] at hdn
    unfold comB at hb
    rw [hdn, List.filter_eq_nil_iff.mpr fun u hu => by simpa using hd u hu] at hb
    cases hb

/-! ### new names that are odd -/
theorem bsortS_i {eh : Eh} {q : KE} {x : EV} {ks : List Str} (h : lstE eh x = some (ks.map .str)) (hl : ks.length < 64) (k : ∀ ys : List Str, ys.Perm ks → sortedS ys = true → q (.lst (ys.map .str)) eh) : bSortS [x] eh q := ⟨ks, h, hl, k⟩
theorem bsortD_i {eh : Eh} {q : KE} {x : EV} {kvs : List (Key × EV)} {ks : List Str} (h : dctE eh x = some kvs) (e : kvs.map (·.1) = ks.map Sum.inr) (hl : ks.length < 64) (k : ∀ ys : List Str, ys.Perm ks → sortedS ys = true → q (.lst (ys.map .str)) eh) : bSortD [x] eh q := ⟨kvs, ks, h, e, hl, k⟩
theorem sorted_uniq {xs ys : List Str} (hp : xs.Perm ys) (hx : sortedS xs = true) (hy : sortedS ys = true) : xs = ys :=
  List.Perm.eq_of_pairwise (le := fun a b : Str => ¬ b.cps.toList < a.cps.toList) (fun a b _ _ h h' => str_le h h') (sortedS_pw hx) (sortedS_pw hy) hp
/-- the value that a key has -/
def nv (kvs : List (Str × Str)) (w : Str) : Str := (kvs.lookup w).getD ""
def laterL (names : List Str) (kvs : List (Str × Str)) : List Str := names.map (rnV kvs)
def badN (names : List Str) (kvs : List (Str × Str)) (w : Str) : Bool := !nameOk (nv kvs w) || decide (1 < (laterL names kvs).count (nv kvs w))
/-- the error that is due -/
def dueR (names : List Str) (kvs : List (Str × Str)) (ys : List Str) : Option (Str × Str × Str) :=
  match ys.filter fun w => !decide (w ∈ names) with
  | w :: _ => some ("table", "UnknownTable", w)
  | [] => match ys.filter (badN names kvs) with
    | w :: _ => some ("name", "InvalidName", nv kvs w)
    | [] => none
theorem getK_nv {kvs : List (Str × Str)} {w : Str} (h : w ∈ kvs.map (·.1)) : getK (ndE kvs) (.inr w) = some (.str (nv kvs w)) := by
  rw [getK_nd]
  unfold nv
  cases e : kvs.lookup w with
  | none =>
    exfalso
    obtain ⟨p, hp, rfl⟩ := List.mem_map.mp h
    have : ∀ l : List (Str × Str), p ∈ l → l.lookup p.1 ≠ none := by
      intro l
      induction l with
      | nil => intro z; cases z
      | cons y l ih =>
        intro z
        rw [List.lookup_cons]
        rcases List.mem_cons.mp z with rfl | z
        · rw [beq_self_eq_true]; simp
        · cases hb : p.1 == y.1 with
          | true => simp
          | false => exact ih z
    exact this kvs hp e
  | some v => rfl
theorem rn_of_due {rs : List Row} {kvs : List (Str × Str)} {ys : List Str} (hn : (rs.map (·.w)).Nodup) (hk : (kvs.map (·.1)).Nodup) (hy : ys.Perm (kvs.map (·.1))) (h : dueR (rs.map (·.w)) kvs ys = none) : RnOk rs kvs := by
  unfold dueR at h
  split at h
  · cases h
  rename_i h1
  split at h
  · cases h
  rename_i h2
  have k1 : ∀ w ∈ kvs.map (·.1), w ∈ rs.map (·.w) := fun w hw => by
    have := List.filter_eq_nil_iff.mp h1 w (hy.mem_iff.mpr hw)
    simpa using this
  have k2 : ∀ w ∈ kvs.map (·.1), nameOk (nv kvs w) = true ∧ (laterL (rs.map (·.w)) kvs).count (nv kvs w) ≤ 1 := fun w hw => by
    have := List.filter_eq_nil_iff.mp h2 w (hy.mem_iff.mpr hw)
    simp only [badN, Bool.or_eq_true, Bool.not_eq_true', decide_eq_true_eq, not_or] at this
    exact ⟨by simpa using this.1, by omega⟩
  have nvp : ∀ p ∈ kvs, nv kvs p.1 = p.2 := fun p hp => by unfold nv; rw [look_of hk hp]; rfl
  refine ⟨hk, fun p hp => k1 _ (List.mem_map.mpr ⟨p, hp, rfl⟩), fun p hp => by rw [← nvp p hp]; exact (k2 _ (List.mem_map.mpr ⟨p, hp, rfl⟩)).1, ?_⟩
  have key : ∀ l : List Str, l.Nodup → (∀ w ∈ l, w ∈ kvs.map (·.1) → (l.map (rnV kvs)).count (rnV kvs w) ≤ 1) → (l.map (rnV kvs)).Nodup := by
    intro l
    induction l with
    | nil => intro _ _; simp
    | cons u l ih =>
      intro hn hc
      rw [List.nodup_cons] at hn
      rw [List.map_cons, List.nodup_cons]
      refine ⟨fun hm => ?_, ih hn.2 fun w hw hk' => ?_⟩
      · obtain ⟨v, hv, e⟩ := List.mem_map.mp hm
        have two : ∀ w, rnV kvs w = rnV kvs u → 1 < ((u :: l).map (rnV kvs)).count (rnV kvs w) := fun w ew => by
          rw [List.map_cons, List.count_cons, ew, if_pos (by simp)]
          have : 0 < (l.map (rnV kvs)).count (rnV kvs u) := List.count_pos_iff.mpr (by rw [← e]; exact List.mem_map.mpr ⟨v, hv, rfl⟩)
          omega
        by_cases hu : u ∈ kvs.map (·.1)
        · have := hc u (by simp) hu
          have := two u rfl
          omega
        · by_cases hv' : v ∈ kvs.map (·.1)
          · have := hc v (by simp [hv]) hv'
            have := two v e
            omega
          · rw [rnV_no hu, rnV_no hv'] at e
            exact hn.1 (e ▸ hv)
      · have := hc w (by simp [hw]) hk'
        rw [List.map_cons, List.count_cons] at this
        omega
  have := key (rs.map (·.w)) hn fun w hw hkw => by
    have hv : rnV kvs w = nv kvs w := by
      obtain ⟨p, hp, rfl⟩ := List.mem_map.mp hkw
      rw [nvp p hp, rnV_of hk hp]
    rw [hv]
    exact (k2 w hkw).2
  rw [List.map_map] at this
  exact this
/-- the dict of the later names, made -/
theorem later_ok {xc : XC} {dims md : Int} {rs : List Row} {N : EV} {kvs : List (Str × Str)} {eh : Eh} {q : KE} {z2 : Option EV} (h : SysFit dims md rs) (hN : ∀ eh', Kp eh eh' → dctE eh' N = some (ndE kvs))
    (k : q (.dct (ndE (rs.map fun r => (r.w, rnV kvs r.w)))) eh) : mFz 9 (mDComp (iAny (mFld "System" "kept_tables" (mVar 0))) (.nm 2) tYesE (mVar 2) ce_System_renamed_3 [2]) xc [some (sysE dims md rs), some N, z2, none, none, none, none, none, none, none, none, none] eh q := by
  have hl := h.l
  refine fz_i ?_
  refine dcomp_i ?_
  walk_at "go"
  refine ⟨_, .dct (tabE rs), rfl, by rfl, ?_⟩
  refine ⟨(tabE rs).map fun p => keyV p.1, fun _ => True, rfl, ?_⟩
  intro p hp
  rw [show (tabE rs).map (fun p => keyV p.1) = rs.map fun r => EV.str r.w by unfold tabE; rw [List.map_map]; rfl]
  refine dc_map (c := fun r : Row => EV.str r.w) (kf := fun r => r.w) (vf := fun r => .str (rnV kvs r.w)) (fun eh' => Kp eh eh') (fun eh' v j => j.set hp) (fun _ _ => trivial) (L := rs) (acc := []) (.new hp) eupd_same (by simp; omega) (by
    have := h.nd
    rw [List.map_nil, List.nil_append]
    exact List.Pairwise.map (R := fun a b : Row => a.w ≠ b.w) (S := (· ≠ ·)) (fun r : Row => (Sum.inr r.w : Key)) (fun a b h e => h (Sum.inr.inj e)) (List.pairwise_map.mp this)) (fun r hr => asgx_i rfl fun eh' j => ⟨fun q' hq => ?_, fun q' hq => ?_⟩) ?_
  · walk_at "go"; exact hq
  · unfold ce_System_renamed_3
    refine dget2_i ?_
    walk_at "go"
    refine ⟨⟨_, hN eh' j⟩, ?_⟩
    walk_at "go"
    refine ⟨_, .inr r.w, hN eh' j, rfl, ?_⟩
    rw [getK_nd]
    unfold rnV at hq
    cases e : kvs.lookup r.w with
    | none => rw [e] at hq; exact hq
    | some v => rw [e] at hq; exact hq
  rw [eupd_eupd, List.nil_append]
  have efz : fz (nw eh) (eupd eh p (some (.dct (rs.map fun r => ((Sum.inr r.w : Key), EV.str (rnV kvs r.w)))))) 9 (.ref p) = .dct (ndE (rs.map fun r => (r.w, rnV kvs r.w))) := by
    have e1 : (rs.map fun r => ((Sum.inr r.w : Key), EV.str (rnV kvs r.w))) = ndE (rs.map fun r => (r.w, rnV kvs r.w)) := by unfold ndE; rw [List.map_map]; rfl
    rw [e1, fz_dct (k := 8) (by simp [nw, hp]) eupd_same, fz_nd]
  rw [efz, drE_new hp]
  exact k
theorem renamed_bad {xc : XC} {dims md : Int} {rs : List Row} {N : EV} {kvs : List (Str × Str)} {ys : List Str} {wd C v : Str} {eh : Eh} {q : KE} (h : SysFit dims md rs) (hkl : kvs.length ≤ 20) (hsm : ∀ p ∈ kvs, p.2.length ≤ 90) (hN : ∀ eh', Kp eh eh' → dctE eh' N = some (ndE kvs))
    (hy : ys.Perm (kvs.map (·.1))) (hys : sortedS ys = true) (hd : dueR (rs.map (·.w)) kvs ys = some (wd, C, v)) (k : xc C (.str v) eh) : fn_System_renamed xc [sysE dims md rs, N] eh q := by
  have hl := h.l
  have hN0 := hN eh .refl
  have hks : (ndE kvs).map (·.1) = (kvs.map (·.1)).map Sum.inr := nd_keys kvs
  unfold fn_System_renamed ms_System_renamed
  walk_at "go"
  refine bsortD_i hN0 hks (by rw [List.length_map]; omega) fun ys1 h1 h1s => ?_
  obtain rfl := sorted_uniq (h1.trans hy.symm) h1s hys
  walk_at "go"
  refine for_inv (c := EV.str) (fun L es eh' => (∃ done, ys1 = done ++ L ∧ ∀ u ∈ done, u ∈ rs.map (·.w)) ∧ eh = eh' ∧ ∃ z2, es = [some (sysE dims md rs), some N, z2, none, none, none, none, none, none, none, none, none]) ⟨⟨[], rfl, by simp⟩, rfl, _, rfl⟩ ?_ ?_
  · rintro y L es eh' ⟨⟨done, hdn, hdo⟩, rfl, z2, rfl⟩
    refine ⟨trivial, asgx_i rfl fun d' _ hn _ _ => ?_⟩
    unfold bd_System_renamed_1
    walk_at "go"
    by_cases hyr : y ∈ rs.map (·.w)
    · obtain ⟨r, hr, e2⟩ := List.mem_map.mp hyr
      subst e2
      refine table_fz rfl h.nd hr ?_
      walk_at "go"
      exact hn _ _ ⟨⟨done ++ [r.w], by simp [hdn], fun u hu => by
        rcases List.mem_append.mp hu with hu | hu
        · exact hdo u hu
        · rw [List.mem_singleton.mp hu]; exact hyr⟩, rfl, _, rfl⟩
    · have e : (ys1.filter fun w => !decide (w ∈ rs.map (·.w))) = y :: L.filter fun w => !decide (w ∈ rs.map (·.w)) := by
        rw [hdn, List.filter_append, List.filter_eq_nil_iff.mpr fun u hu => by simpa using hdo u hu, List.filter_cons, if_pos (by simpa using hyr)]; rfl
      unfold dueR at hd
      rw [e] at hd
      cases hd
      exact table_bad hyr k
  rintro es eh' ⟨⟨done, hdn, hdo⟩, rfl, z2, rfl⟩
  rw [List.append_nil] at hdn
  subst hdn
  refine ⟨trivial, ?_⟩
  have hd2 : (match ys1.filter (badN (rs.map (·.w)) kvs) with
    | w :: _ => some (("name" : Str), ("InvalidName" : Str), nv kvs w)
    | [] => none) = some (wd, C, v) := by
    unfold dueR at hd
    rw [List.filter_eq_nil_iff.mpr fun u hu => by simpa using hdo u hu] at hd
    exact hd
  walk_at "go"
  refine later_ok h hN ?_
  walk_at "go"
  refine bsortD_i hN0 hks (by rw [List.length_map]; omega) fun ys2 h2 h2s => ?_
  obtain rfl := sorted_uniq (h2.trans hy.symm) h2s hys
  walk_at "go"
  refine for_inv (c := EV.str) (fun L es eh' => (∃ done, ys2 = done ++ L ∧ ∀ u ∈ done, badN (rs.map (·.w)) kvs u = false) ∧ eh = eh' ∧ ∃ z2, es = [some (sysE dims md rs), some N, z2, some (.dct (ndE (rs.map fun r => (r.w, rnV kvs r.w)))), none, none, none, none, none, none, none, none]) ⟨⟨[], rfl, by simp⟩, rfl, _, rfl⟩ ?_ ?_
  · rintro y L es eh' ⟨⟨done, hdn, hdo2⟩, rfl, z2, rfl⟩
    refine ⟨trivial, asgx_i rfl fun d' _ hn _ _ => ?_⟩
    have hyk : y ∈ kvs.map (·.1) := hy.mem_iff.mp (by rw [hdn]; simp)
    have hv := getK_nv hyk
    have hvl : (nv kvs y).length ≤ 90 := by
      unfold nv
      cases e : kvs.lookup y with
      | none => decide
      | some v => exact hsm _ (look_mem e)
    have bad : badN (rs.map (·.w)) kvs y = true → xc "InvalidName" (.str (nv kvs y)) eh := fun hb => by
      have e : ys2.filter (badN (rs.map (·.w)) kvs) = y :: L.filter (badN (rs.map (·.w)) kvs) := by
        rw [hdn, List.filter_append, List.filter_eq_nil_iff.mpr fun u hu => by simp [hdo2 u hu], List.filter_cons, if_pos hb]; rfl
      rw [e] at hd2
      cases hd2
      exact k
    unfold bd_System_renamed_4
    walk_at "go"
    refine ixd_i hN0 rfl hv ?_
    walk_at "go"
    refine name_gen rfl hvl ?_
    refine ⟨_, rfl, ?_⟩
    have raise : badN (rs.map (·.w)) kvs y = true → sRaise "InvalidName" (mOp oIx (mVar 1) (mVar 2)) xc d' [some (sysE dims md rs), some N, some (.str y), some (.dct (ndE (rs.map fun r => (r.w, rnV kvs r.w)))), none, none, none, none, none, none, none, none] eh := fun hb => by
      refine raise_i ?_
      walk_at "go"
      refine ixd_i hN0 rfl hv ?_
      exact bad hb
    cases hno : nameOk (nv kvs y) with
    | false =>
      refine cT_i ?_
      exact raise (by simp [badN, hno])
    | true =>
      refine cF_i ?_
      walk_at "go"
      refine lvals_i ?_
      walk_at "go"
      refine ⟨_, rfl, ?_⟩
      rw [show (ndE (rs.map fun r => (r.w, rnV kvs r.w))).map (·.2) = (laterL (rs.map (·.w)) kvs).map EV.str by unfold ndE laterL; rw [List.map_map, List.map_map, List.map_map, List.map_map]; rfl]
      refine ⟨⟨_, rfl⟩, ?_⟩
      walk_at "go"
      refine ixd_i hN0 rfl hv ?_
      walk_at "go"
      refine ⟨_, _, rfl, rfl, ?_⟩
      walk_at "go"
      refine cD_i (fun hc => ?_) (fun hc => ?_)
      · exact raise (by simp only [badN, hno, Bool.not_true, Bool.false_or, decide_eq_true_eq]; omega)
      · walk_at "go"
        exact hn _ _ ⟨⟨done ++ [y], by simp [hdn], fun u hu => by
          rcases List.mem_append.mp hu with hu | hu
          · exact hdo2 u hu
          · rw [List.mem_singleton.mp hu]; simp only [badN, hno, Bool.not_true, Bool.false_or, decide_eq_false_iff_not]; omega⟩, rfl, _, rfl⟩
  · rintro es eh' ⟨⟨done, hdn, hdo2⟩, rfl, z2, rfl⟩
    exfalso
    rw [List.append_nil] at hdn
    subst hdn
    rw [List.filter_eq_nil_iff.mpr fun u hu => by simp [hdo2 u hu]] at hd2
    cases hd2

/-! ### axes that are none -/
def srt (π : List Int) : List Int := π.mergeSort fun a b => decide (a ≤ b)
theorem bsortU_any {π : List Int} {eh : Eh} {q : KE} (k : q (.lst ((srt π).map .int)) eh) : bSortU [.tup (π.map .int)] eh q := by
  have hD : ∀ d ∈ (π.map EV.int).map D, ∃ i : Int, d = .int i := fun d hd => by
    obtain ⟨x, hx, rfl⟩ := List.mem_map.mp hd
    obtain ⟨i, _, rfl⟩ := List.mem_map.mp hx
    exact ⟨i, rfl⟩
  refine ⟨_, rfl, ?_, fun d hd d' hd' => ?_, .inr fun d hd => ?_, fun y hy => ?_, by rw [sortT_ints]; exact k⟩
  · rw [List.all_eq_true]
    intro y hy
    obtain ⟨i, _, rfl⟩ := List.mem_map.mp hy
    rfl
  · obtain ⟨i, rfl⟩ := hD d hd
    obtain ⟨j, rfl⟩ := hD d' hd'
    rfl
  · obtain ⟨i, rfl⟩ := hD d hd
    exact ⟨by simp, by simp⟩
  · obtain ⟨i, _, rfl⟩ := List.mem_map.mp hy
    exact Nat.zero_le _
theorem srt_ax {dims : Int} {π : List Int} (h : srt π = axs dims) : AxOk dims π := (List.mergeSort_perm π _).symm.trans (by show (srt π).Perm _; rw [h])
theorem axs_E (dims : Int) : ((List.range dims.toNat).map fun i => EV.int ((i : Nat) : Int)) = (axs dims).map .int := by unfold axs; rw [List.map_map]; rfl
theorem okD_lint (l : List Int) : okD 1 (.lst (l.map .int)) = true := okD_map fun _ _ => rfl
/-- sorted(axes) against list(range(dims)) -/
theorem axes_cmp {π : List Int} {dims : Int} {neg : Bool} {eh : Eh} {q : KE} (k : q (.bl (neg ^^ decide (srt π = axs dims))) eh) : cEq neg (.lst ((srt π).map .int)) (.lst ((axs dims).map .int)) eh q :=
  eq_i (n := 1) (m := 1) (decide (srt π = axs dims)) rfl rfl (okD_lint _) (okD_lint _) (by decide) (by decide) (by
    rw [decide_eq_true_eq]
    exact ⟨fun h => by rw [h], fun h => ints_inj (EV.lst.inj h)⟩) k
theorem exchanged_bad {xc : XC} {dims md : Int} {rs : List Row} {π : List Int} {eh : Eh} {q : KE} (hd : 1 ≤ dims ∧ dims ≤ 3) (hb : srt π ≠ axs dims) (k : xc "InvalidAxes" (.tup (π.map .int)) eh) : fn_System_exchanged xc [sysE dims md rs, .tup (π.map .int)] eh q := by
  unfold fn_System_exchanged ms_System_exchanged
  walk_at "go"
  refine bsortU_any ?_
  refine lrg_i ?_
  walk_at "go"
  refine ⟨_, .int dims, rfl, by rfl, ?_⟩
  refine ⟨dims.toNat, by rw [Int.toNat_of_nonneg (by omega)], by omega, ?_⟩
  rw [axs_E]
  refine axes_cmp ?_
  rw [decide_eq_false hb]
  refine ⟨_, rfl, ?_⟩
  refine cT_i ?_
  refine raise_i ?_
  walk_at "go"
  exact k
/-! ### the law's calls -/
structure Cls (C wd : Str) : Prop where
  m : C ∈ er.es
  x : isX C "ReadError" = true
  w : (cW.filter fun p => isX C p.2).map (·.1) = [wd]
theorem clT : Cls "UnknownTable" "table" := ⟨by decide, by decide +kernel, by decide +kernel⟩
theorem clN : Cls "InvalidName" "name" := ⟨by decide, by decide +kernel, by decide +kernel⟩
theorem clR : Cls "InvalidRead" "read" := ⟨by decide, by decide +kernel, by decide +kernel⟩
theorem clA : Cls "InvalidAxes" "axes" := ⟨by decide, by decide +kernel, by decide +kernel⟩
theorem okB_pair {n : Nat} {wd : Str} {V : EV} (h : okB n V = true) : okB (n + 1) (.tup [.str wd, V]) = true := by
  show [EV.str wd, V].all (okB n) = true
  simp only [List.all_cons, List.all_nil, Bool.and_true, h]
  cases n <;> rfl
theorem raised0_good {S : Addr → Bool} {xc : XC} {dims md : Int} {rs : List Row} {G : EV} {eh : Eh} {q : KE} (hS : S = nw eh) (H : ∀ xc : XC, FZ (nw eh) fn_System_constant xc [sysE dims md rs, G] eh fun _ e => q (.str "fine") e) : ([EV.int 0, sysE dims md rs, G] ++ []).length = 3 ∧ FZ S fn__law_raised xc ([EV.int 0, sysE dims md rs, G] ++ []) eh q := by
  refine ⟨rfl, ?_⟩
  subst hS
  unfold FZ fn__law_raised ms__law_raised
  walk_at "go"
  refine tryH_i ?_
  walk_at "go"
  refine cT_i ?_
  walk_at "go"
  refine ⟨_, rfl, by rfl, ?_⟩
  walk_at "go"
  refine ⟨rfl, ?_⟩
  exact H _
theorem raised0_bad {S : Addr → Bool} {xc : XC} {dims md : Int} {rs : List Row} {G : EV} {eh : Eh} {q : KE} (hS : S = nw eh) {C wd : Str} {V : EV} {n : Nat} (hc : Cls C wd) (hV : okB n V = true) (H : ∀ (xc : XC) (q : KE), xc C V eh → fn_System_constant xc [sysE dims md rs, G] eh q) (k : q (.tup [.str wd, V]) eh) : ([EV.int 0, sysE dims md rs, G] ++ []).length = 3 ∧ FZ S fn__law_raised xc ([EV.int 0, sysE dims md rs, G] ++ []) eh q := by
  refine ⟨rfl, ?_⟩
  subst hS
  unfold FZ fn__law_raised ms__law_raised
  walk_at "go"
  refine tryH_i ?_
  walk_at "go"
  refine cT_i ?_
  walk_at "go"
  refine ⟨_, rfl, by rfl, ?_⟩
  walk_at "go"
  refine ⟨rfl, ?_⟩
  refine H _ _ ?_
  refine ⟨hc.m, hc.x, fun a => ?_⟩
  walk_at "go"
  refine callH_i ?_
  walk_at "go"
  refine caught_ok hc.m hc.w ?_
  exact fin_data (n := n + 1) .refl (okB_pair hV) k
theorem raised1_good {S : Addr → Bool} {xc : XC} {dims md : Int} {rs : List Row} {G : EV} {eh : Eh} {q : KE} (hS : S = nw eh) (H : ∀ xc : XC, FZ (nw eh) fn_System_reads xc [sysE dims md rs, G] eh fun _ e => q (.str "fine") e) : ([EV.int 1, sysE dims md rs, G] ++ []).length = 3 ∧ FZ S fn__law_raised xc ([EV.int 1, sysE dims md rs, G] ++ []) eh q := by
  refine ⟨rfl, ?_⟩
  subst hS
  unfold FZ fn__law_raised ms__law_raised
  walk_at "go"
  refine tryH_i ?_
  walk_at "go"
  refine cF_i ?_
  walk_at "go"
  refine cT_i ?_
  walk_at "go"
  refine ⟨_, rfl, by rfl, ?_⟩
  walk_at "go"
  refine ⟨rfl, ?_⟩
  exact H _
theorem raised1_bad {S : Addr → Bool} {xc : XC} {dims md : Int} {rs : List Row} {G : EV} {eh : Eh} {q : KE} (hS : S = nw eh) {C wd : Str} {V : EV} {n : Nat} (hc : Cls C wd) (hV : okB n V = true) (H : ∀ (xc : XC) (q : KE), xc C V eh → fn_System_reads xc [sysE dims md rs, G] eh q) (k : q (.tup [.str wd, V]) eh) : ([EV.int 1, sysE dims md rs, G] ++ []).length = 3 ∧ FZ S fn__law_raised xc ([EV.int 1, sysE dims md rs, G] ++ []) eh q := by
  refine ⟨rfl, ?_⟩
  subst hS
  unfold FZ fn__law_raised ms__law_raised
  walk_at "go"
  refine tryH_i ?_
  walk_at "go"
  refine cF_i ?_
  walk_at "go"
  refine cT_i ?_
  walk_at "go"
  refine ⟨_, rfl, by rfl, ?_⟩
  walk_at "go"
  refine ⟨rfl, ?_⟩
  refine H _ _ ?_
  refine ⟨hc.m, hc.x, fun a => ?_⟩
  walk_at "go"
  refine callH_i ?_
  walk_at "go"
  refine caught_ok hc.m hc.w ?_
  exact fin_data (n := n + 1) .refl (okB_pair hV) k
theorem raised2_good {S : Addr → Bool} {xc : XC} {dims md : Int} {rs : List Row} {G : EV} {eh : Eh} {q : KE} (hS : S = nw eh) (H : ∀ xc : XC, FZ (nw eh) fn_System_without xc [sysE dims md rs, G] eh fun _ e => q (.str "fine") e) : ([EV.int 2, sysE dims md rs, G] ++ []).length = 3 ∧ FZ S fn__law_raised xc ([EV.int 2, sysE dims md rs, G] ++ []) eh q := by
  refine ⟨rfl, ?_⟩
  subst hS
  unfold FZ fn__law_raised ms__law_raised
  walk_at "go"
  refine tryH_i ?_
  walk_at "go"
  refine cF_i ?_
  walk_at "go"
  refine cF_i ?_
  walk_at "go"
  refine cT_i ?_
  walk_at "go"
  refine ⟨_, rfl, by rfl, ?_⟩
  walk_at "go"
  refine ⟨rfl, ?_⟩
  exact H _
theorem raised2_bad {S : Addr → Bool} {xc : XC} {dims md : Int} {rs : List Row} {G : EV} {eh : Eh} {q : KE} (hS : S = nw eh) {C wd : Str} {V : EV} {n : Nat} (hc : Cls C wd) (hV : okB n V = true) (H : ∀ (xc : XC) (q : KE), xc C V eh → fn_System_without xc [sysE dims md rs, G] eh q) (k : q (.tup [.str wd, V]) eh) : ([EV.int 2, sysE dims md rs, G] ++ []).length = 3 ∧ FZ S fn__law_raised xc ([EV.int 2, sysE dims md rs, G] ++ []) eh q := by
  refine ⟨rfl, ?_⟩
  subst hS
  unfold FZ fn__law_raised ms__law_raised
  walk_at "go"
  refine tryH_i ?_
  walk_at "go"
  refine cF_i ?_
  walk_at "go"
  refine cF_i ?_
  walk_at "go"
  refine cT_i ?_
  walk_at "go"
  refine ⟨_, rfl, by rfl, ?_⟩
  walk_at "go"
  refine ⟨rfl, ?_⟩
  refine H _ _ ?_
  refine ⟨hc.m, hc.x, fun a => ?_⟩
  walk_at "go"
  refine callH_i ?_
  walk_at "go"
  refine caught_ok hc.m hc.w ?_
  exact fin_data (n := n + 1) .refl (okB_pair hV) k
theorem raised3_good {S : Addr → Bool} {xc : XC} {dims md : Int} {rs : List Row} {G : EV} {eh : Eh} {q : KE} (hS : S = nw eh) (H : ∀ xc : XC, FZ (nw eh) fn_System_beside xc [sysE dims md rs, G] eh fun _ e => q (.str "fine") e) : ([EV.int 3, sysE dims md rs, G] ++ []).length = 3 ∧ FZ S fn__law_raised xc ([EV.int 3, sysE dims md rs, G] ++ []) eh q := by
  refine ⟨rfl, ?_⟩
  subst hS
  unfold FZ fn__law_raised ms__law_raised
  walk_at "go"
  refine tryH_i ?_
  walk_at "go"
  refine cF_i ?_
  walk_at "go"
  refine cF_i ?_
  walk_at "go"
  refine cF_i ?_
  walk_at "go"
  refine cT_i ?_
  walk_at "go"
  refine ⟨_, rfl, by rfl, ?_⟩
  walk_at "go"
  refine ⟨rfl, ?_⟩
  exact H _
theorem raised3_bad {S : Addr → Bool} {xc : XC} {dims md : Int} {rs : List Row} {G : EV} {eh : Eh} {q : KE} (hS : S = nw eh) {C wd : Str} {V : EV} {n : Nat} (hc : Cls C wd) (hV : okB n V = true) (H : ∀ (xc : XC) (q : KE), xc C V eh → fn_System_beside xc [sysE dims md rs, G] eh q) (k : q (.tup [.str wd, V]) eh) : ([EV.int 3, sysE dims md rs, G] ++ []).length = 3 ∧ FZ S fn__law_raised xc ([EV.int 3, sysE dims md rs, G] ++ []) eh q := by
  refine ⟨rfl, ?_⟩
  subst hS
  unfold FZ fn__law_raised ms__law_raised
  walk_at "go"
  refine tryH_i ?_
  walk_at "go"
  refine cF_i ?_
  walk_at "go"
  refine cF_i ?_
  walk_at "go"
  refine cF_i ?_
  walk_at "go"
  refine cT_i ?_
  walk_at "go"
  refine ⟨_, rfl, by rfl, ?_⟩
  walk_at "go"
  refine ⟨rfl, ?_⟩
  refine H _ _ ?_
  refine ⟨hc.m, hc.x, fun a => ?_⟩
  walk_at "go"
  refine callH_i ?_
  walk_at "go"
  refine caught_ok hc.m hc.w ?_
  exact fin_data (n := n + 1) .refl (okB_pair hV) k
theorem raised4_good {S : Addr → Bool} {xc : XC} {dims md : Int} {rs : List Row} {G : EV} {eh : Eh} {q : KE} (hS : S = nw eh) (H : ∀ xc : XC, FZ (nw eh) fn_System_renamed xc [sysE dims md rs, G] eh fun _ e => q (.str "fine") e) : ([EV.int 4, sysE dims md rs, G] ++ []).length = 3 ∧ FZ S fn__law_raised xc ([EV.int 4, sysE dims md rs, G] ++ []) eh q := by
  refine ⟨rfl, ?_⟩
  subst hS
  unfold FZ fn__law_raised ms__law_raised
  walk_at "go"
  refine tryH_i ?_
  walk_at "go"
  refine cF_i ?_
  walk_at "go"
  refine cF_i ?_
  walk_at "go"
  refine cF_i ?_
  walk_at "go"
  refine cF_i ?_
  walk_at "go"
  refine cT_i ?_
  walk_at "go"
  refine ⟨_, rfl, by rfl, ?_⟩
  walk_at "go"
  refine ⟨rfl, ?_⟩
  exact H _
theorem raised4_bad {S : Addr → Bool} {xc : XC} {dims md : Int} {rs : List Row} {G : EV} {eh : Eh} {q : KE} (hS : S = nw eh) {C wd : Str} {V : EV} {n : Nat} (hc : Cls C wd) (hV : okB n V = true) (H : ∀ (xc : XC) (q : KE), xc C V eh → fn_System_renamed xc [sysE dims md rs, G] eh q) (k : q (.tup [.str wd, V]) eh) : ([EV.int 4, sysE dims md rs, G] ++ []).length = 3 ∧ FZ S fn__law_raised xc ([EV.int 4, sysE dims md rs, G] ++ []) eh q := by
  refine ⟨rfl, ?_⟩
  subst hS
  unfold FZ fn__law_raised ms__law_raised
  walk_at "go"
  refine tryH_i ?_
  walk_at "go"
  refine cF_i ?_
  walk_at "go"
  refine cF_i ?_
  walk_at "go"
  refine cF_i ?_
  walk_at "go"
  refine cF_i ?_
  walk_at "go"
  refine cT_i ?_
  walk_at "go"
  refine ⟨_, rfl, by rfl, ?_⟩
  walk_at "go"
  refine ⟨rfl, ?_⟩
  refine H _ _ ?_
  refine ⟨hc.m, hc.x, fun a => ?_⟩
  walk_at "go"
  refine callH_i ?_
  walk_at "go"
  refine caught_ok hc.m hc.w ?_
  exact fin_data (n := n + 1) .refl (okB_pair hV) k
theorem raised5_good {S : Addr → Bool} {xc : XC} {dims md : Int} {rs : List Row} {G : EV} {eh : Eh} {q : KE} (hS : S = nw eh) (H : ∀ xc : XC, FZ (nw eh) fn_System_exchanged xc [sysE dims md rs, G] eh fun _ e => q (.str "fine") e) : ([EV.int 5, sysE dims md rs, G] ++ []).length = 3 ∧ FZ S fn__law_raised xc ([EV.int 5, sysE dims md rs, G] ++ []) eh q := by
  refine ⟨rfl, ?_⟩
  subst hS
  unfold FZ fn__law_raised ms__law_raised
  walk_at "go"
  refine tryH_i ?_
  walk_at "go"
  refine cF_i ?_
  walk_at "go"
  refine cF_i ?_
  walk_at "go"
  refine cF_i ?_
  walk_at "go"
  refine cF_i ?_
  walk_at "go"
  refine cF_i ?_
  walk_at "go"
  refine ⟨_, rfl, by rfl, ?_⟩
  walk_at "go"
  refine ⟨rfl, ?_⟩
  exact H _
theorem raised5_bad {S : Addr → Bool} {xc : XC} {dims md : Int} {rs : List Row} {G : EV} {eh : Eh} {q : KE} (hS : S = nw eh) {C wd : Str} {V : EV} {n : Nat} (hc : Cls C wd) (hV : okB n V = true) (H : ∀ (xc : XC) (q : KE), xc C V eh → fn_System_exchanged xc [sysE dims md rs, G] eh q) (k : q (.tup [.str wd, V]) eh) : ([EV.int 5, sysE dims md rs, G] ++ []).length = 3 ∧ FZ S fn__law_raised xc ([EV.int 5, sysE dims md rs, G] ++ []) eh q := by
  refine ⟨rfl, ?_⟩
  subst hS
  unfold FZ fn__law_raised ms__law_raised
  walk_at "go"
  refine tryH_i ?_
  walk_at "go"
  refine cF_i ?_
  walk_at "go"
  refine cF_i ?_
  walk_at "go"
  refine cF_i ?_
  walk_at "go"
  refine cF_i ?_
  walk_at "go"
  refine cF_i ?_
  walk_at "go"
  refine ⟨_, rfl, by rfl, ?_⟩
  walk_at "go"
  refine ⟨rfl, ?_⟩
  refine H _ _ ?_
  refine ⟨hc.m, hc.x, fun a => ?_⟩
  walk_at "go"
  refine callH_i ?_
  walk_at "go"
  refine caught_ok hc.m hc.w ?_
  exact fin_data (n := n + 1) .refl (okB_pair hV) k

/-! ### tables and reads that are not there -/
def dueT (names : List Str) (w : Str) : EV := if w ∈ names then .str "fine" else .tup [.str "table", .str w]
theorem okD_dueT (names : List Str) (w : Str) : okD 1 (dueT names w) = true := by
  unfold dueT
  split <;> rfl
theorem door0 {S : Addr → Bool} {xc : XC} {dims md : Int} {rs : List Row} {w : Str} {eh : Eh} {q : KE} (hS : S = nw eh) (hn : (rs.map (·.w)).Nodup) (k : q (dueT (rs.map (·.w)) w) eh) : ([EV.int 0, sysE dims md rs, .str w] ++ []).length = 3 ∧ FZ S fn__law_raised xc ([EV.int 0, sysE dims md rs, .str w] ++ []) eh q := by
  unfold dueT at k
  by_cases h : w ∈ rs.map (·.w)
  · rw [if_pos h] at k
    obtain ⟨r, hr, rfl⟩ := List.mem_map.mp h
    exact raised0_good hS fun xc => const_fz rfl hn hr k
  · rw [if_neg h] at k
    exact raised0_bad (n := 0) hS clT rfl (fun xc q kx => const_bad h kx) k
theorem door1 {S : Addr → Bool} {xc : XC} {dims md : Int} {rs : List Row} {w : Str} {eh : Eh} {q : KE} (hS : S = nw eh) (hn : (rs.map (·.w)).Nodup) (k : q (dueT (rs.map (·.w)) w) eh) : ([EV.int 1, sysE dims md rs, .str w] ++ []).length = 3 ∧ FZ S fn__law_raised xc ([EV.int 1, sysE dims md rs, .str w] ++ []) eh q := by
  unfold dueT at k
  by_cases h : w ∈ rs.map (·.w)
  · rw [if_pos h] at k
    obtain ⟨r, hr, rfl⟩ := List.mem_map.mp h
    exact raised1_good hS fun xc => readsM_fz rfl hn hr k
  · rw [if_neg h] at k
    exact raised1_bad (n := 0) hS clT rfl (fun xc q kx => reads_bad h kx) k
theorem names_E (rs : List Row) : (rs.map fun r => EV.str r.w) = (rs.map (·.w)).map .str := by rw [List.map_map]; rfl
theorem wIn_i {w : Str} {names : List Str} {y : EV} {neg : Bool} {eh : Eh} {q : KE} (hy : seqE eh y = some (names.map .str)) (k : q (.bl (neg ^^ decide (w ∈ names))) eh) : cIn neg (.str w) y eh q :=
  in_i (n := 0) (decide (w ∈ names)) hy rfl (fun z hz => by obtain ⟨c, _, rfl⟩ := List.mem_map.mp hz; rfl) (by decide) (by
    rw [decide_eq_true_eq]
    exact ⟨fun h => List.mem_map.mpr ⟨_, h, rfl⟩, fun h => by obtain ⟨u, hu, e⟩ := List.mem_map.mp h; cases e; exact hu⟩) k
def dueI (L : List (Str × Int)) : EV := match L with
  | [] => .str "fine"
  | x :: _ => .tup [.str "read", nI x]
theorem okD_dueI (L : List (Str × Int)) : okD 2 (dueI L) = true := by cases L <;> rfl
theorem readsright_fz {S : Addr → Bool} {xc : XC} {a : Addr} {s : Int × Int × Int} {dims md b : Int} {rs : List Row} {eh : Eh} {q : KE} (hS : S = nw eh) (ha : eh a = some (rgO s)) (hs : RgOk b s) (hb : b + 300 ≤ 900000000) (h : SysFit dims md rs) (hw : ∀ r ∈ rs, r.w.length ≤ 90)
    (k : ∀ s' : Int × Int × Int, RgOk (b + 200) s' → q (.bl true) (eupd eh a (some (rgO s')))) : ([EV.ref a, sysE dims md rs] ++ []).length = 2 ∧ FZ S fn__law_reads_right xc ([EV.ref a, sysE dims md rs] ++ []) eh q := by
  refine ⟨rfl, ?_⟩
  subst hS
  have hl := h.l
  have han : eh a ≠ none := by rw [ha]; simp
  unfold FZ fn__law_reads_right ms__law_reads_right
  walk_at "go"
  refine ⟨_, rfl, rfl, ?_⟩
  refine names_fz rfl ?_
  walk_at "go"
  refine ⟨_, rfl, by rfl, ?_⟩
  walk_at "go"
  refine ⟨rfl, ?_⟩
  refine allreads_fz rfl ?_
  rw [names_E, namE_rdI]
  walk_at "go"
  have hne : rs ≠ [] := by intro z; rw [z] at hl; simp at hl
  obtain ⟨r0, rest, hr0⟩ : ∃ r0 rest, rs = r0 :: rest := List.exists_cons_of_ne_nil hne
  have hr0m : r0 ∈ rs := by rw [hr0]; simp
  have e0 : atI ((rs.map (·.w)).map EV.str) 0 = some (.str r0.w) := by rw [hr0]; exact at_zero
  obtain ⟨wl, el⟩ : ∃ wl, atI ((rs.map (·.w)).map EV.str) (-1) = some (.str wl) := by
    have key : ∀ l : List Str, l ≠ [] → ∃ wl, atI (l.map EV.str) (-1) = some (.str wl) := by
      intro l hl0
      refine ⟨l.getLast hl0, ?_⟩
      have e := (List.dropLast_concat_getLast hl0).symm
      have e2 : l.map EV.str = l.dropLast.map EV.str ++ [EV.str (l.getLast hl0)] := by
        conv => lhs; rw [e]
        rw [List.map_append]; rfl
      rw [e2]
      exact at_last
    exact key _ (by simpa using hne)
  refine ix_i rfl e0 ?_
  refine ⟨szL (by have := hw r0 hr0m; show r0.w.length + 1 ≤ _; omega), ?_⟩
  walk_at "go"
  refine ix_i rfl e0 ?_
  walk_at "go"
  rw [show [EV.str "", .str "x", .str "A", .str (r0.w ++ "a"), .str r0.w] = (["", "x", "A", r0.w ++ "a", r0.w] : List Str).map .str from rfl]
  refine for_inv (c := EV.str) (fun L es eh' => eh = eh' ∧ ∃ z4 z8, es = [some (.ref a), some (sysE dims md rs), some (.lst ((rs.map (·.w)).map .str)), some (.lst ((rdI rs).map nI)), z4, none, none, none, z8, none]) ⟨rfl, _, _, rfl⟩ ?_ ?_
  · rintro w L es eh' ⟨rfl, z4, z8, rfl⟩
    refine ⟨trivial, asgx_i rfl fun d' _ hn _ _ => ?_⟩
    unfold bd__law_reads_right_1
    walk_at "go"
    refine wIn_i rfl ?_
    rw [Bool.false_xor]
    refine ⟨_, rfl, ?_⟩
    have cont : ∀ x, x = dueT (rs.map (·.w)) w → d'.nx [some (.ref a), some (sysE dims md rs), some (.lst ((rs.map (·.w)).map .str)), some (.lst ((rdI rs).map nI)), some (.str w), none, none, none, some x, none] eh := fun x _ => hn _ _ ⟨rfl, _, _, rfl⟩
    refine cD_i (fun hin => ?_) (fun hin => ?_)
    · walk_at "go"
      refine door0 rfl h.nd ?_
      walk_at "go"
      refine door1 rfl h.nd ?_
      walk_at "go"
      have e : dueT (rs.map (·.w)) w = .str "fine" := by unfold dueT; rw [if_pos hin]
      rw [e]
      refine eqS_same (n := 1) (x' := .lst [.str "fine", .str "fine"]) rfl rfl rfl (by decide) ?_
      refine ⟨_, rfl, ?_⟩
      refine cF_i ?_
      walk_at "go"
      exact cont _ e.symm
    · walk_at "go"
      refine door0 rfl h.nd ?_
      walk_at "go"
      refine door1 rfl h.nd ?_
      walk_at "go"
      have e : dueT (rs.map (·.w)) w = .tup [.str "table", .str w] := by unfold dueT; rw [if_neg hin]
      rw [e]
      refine eqS_same (n := 2) (x' := .lst [.tup [.str "table", .str w], .tup [.str "table", .str w]]) rfl rfl rfl (by decide) ?_
      refine ⟨_, rfl, ?_⟩
      refine cF_i ?_
      walk_at "go"
      exact cont _ e.symm
  rintro es eh' ⟨rfl, z4, z8, rfl⟩
  refine ⟨trivial, ?_⟩
  walk_at "go"
  refine ix_i rfl e0 ?_
  walk_at "go"
  refine nox_i ?_
  walk_at "go"
  refine ⟨_, rfl, by rfl, ?_⟩
  walk_at "go"
  refine ix_i rfl e0 ?_
  walk_at "go"
  refine ⟨rfl, ?_⟩
  refine readsM_fz rfl h.nd hr0m ?_
  walk_at "go"
  rw [List.length_map]
  refine ix_i rfl el ?_
  walk_at "go"
  refine ix_i rfl e0 ?_
  walk_at "go"
  refine pow_i (by decide) ?_
  walk_at "go"
  refine slL_i (L := (rdI rs).map nI) rfl ?_
  rw [show (some (2 : Int)) = some ((2 : Nat) : Int) from rfl, cut_to, ← List.map_take]
  refine addF_i (szL (by simp; omega)) ?_
  have eO : [EV.tup [.str r0.w, .int r0.rs.length], .tup [.str "x", .int 0], .tup [.str wl, .int (-1)], .tup [.str r0.w, .int (10 ^ (30 : Int).toNat)]] ++ ((rdI rs).take 2).map nI = ([(r0.w, (r0.rs.length : Int)), ("x", 0), (wl, -1), (r0.w, 10 ^ (30 : Int).toNat)] ++ (rdI rs).take 2).map nI := by
    rw [List.map_append]; rfl
  rw [eO]
  have hOl : ([(r0.w, (r0.rs.length : Int)), ("x", 0), (wl, -1), (r0.w, 10 ^ (30 : Int).toNat)] ++ (rdI rs).take 2).length ≤ 6 := by simp; omega
  generalize [(r0.w, (r0.rs.length : Int)), ("x", 0), (wl, -1), (r0.w, 10 ^ (30 : Int).toNat)] ++ (rdI rs).take 2 = O at hOl ⊢
  walk_at "go"
  refine slL_i (L := (rdI rs).map nI) rfl ?_
  walk_at "go"
  refine draw_fz rfl ha hs (by omega) (by omega) (by omega) fun v s1 v0 v1 hs1 => ?_
  walk_at "go"
  refine slL_i (L := O.map nI) rfl ?_
  obtain ⟨vi, rfl⟩ := Int.eq_ofNat_of_zero_le v0
  rw [show (some (3 : Int)) = some ((3 : Nat) : Int) from rfl, cut_to, cut_to, ← List.map_take, ← List.map_take]
  refine addF_i (szL (by simp; omega)) ?_
  rw [← List.map_append]
  have hGl : ((rdI rs).take 3 ++ O.take vi).length ≤ 9 := by simp; omega
  generalize (rdI rs).take 3 ++ O.take vi = G0 at hGl ⊢
  walk_at "go"
  refine mixedE_fz (n := 1) (nw_eupd (by rw [ha]; simp)).symm eupd_same hs1 (by omega) (by simp; omega) (fun w hw => by obtain ⟨x, _, rfl⟩ := List.mem_map.mp hw; rfl) (by decide) fun ts s2 hp hs2 => ?_
  rw [eupd_eupd]
  obtain ⟨G, hG, rfl⟩ := perm_map hp G0 rfl
  have hGl2 : G.length ≤ 9 := by rw [hG.length_eq]; exact hGl
  walk_at "go"
  refine comp_filter (c := nI) (f := nI) (p := fun x => !decide (x ∈ rdI rs)) trivial (by simp; omega) (fun x hx => asgx_i rfl ⟨fun qt hq => ?_, fun _ q' hq' => ?_⟩) ?_
  · walk_at "go"
    refine nIn_i (L := rdI rs) rfl ?_
    rw [Bool.true_xor]
    exact ⟨_, rfl, hq⟩
  · walk_at "go"
    exact hq'
  rw [List.nil_append]
  have eB : (G.filter fun x => !decide (x ∈ rdI rs)) = badI rs G := rfl
  rw [eB]
  walk_at "go"
  have kk : q (fz (nw eh) (eupd eh a (some (rgO s2))) 9 (.bl true)) (drE (nw eh) (eupd eh a (some (rgO s2)))) := fin_rg (n := 0) han rfl (k s2 (hs2.mono (by omega)))
  have rest2 : ∀ x, x = dueI (badI rs G) → q (fz (nw eh) (eupd eh a (some (rgO s2))) 9 (.bl true)) (drE (nw eh) (eupd eh a (some (rgO s2)))) := fun _ _ => kk
  cases hbad : badI rs G with
  | nil =>
    refine raised2_good rfl (fun xc => without_good rfl h hbad (by omega) fun _ => ?_)
    walk_at "go"
    refine eq_i (n := 2) (m := 1) (x' := .lst ([] : List EV)) (y' := .lst []) true rfl rfl rfl rfl (by decide) (by decide) (by simp) ?_
    refine ⟨_, rfl, ?_⟩
    refine cF_i ?_
    walk_at "go"
    exact kk
  | cons x Z =>
    refine raised2_bad (n := 1) rfl clR (okB_of (okD_nI x)) (fun xc q kx => without_bad hbad kx) ?_
    walk_at "go"
    refine eq_i (n := 2) (m := 1) (x' := .lst ((x :: Z).map nI)) (y' := .lst []) false rfl rfl (okD_map fun x _ => okD_nI x) rfl (by decide) (by decide) (by simp) ?_
    refine ⟨_, rfl, ?_⟩
    refine cT_i ?_
    walk_at "go"
    refine ix_i rfl at_zero ?_
    walk_at "go"
    refine eqS_same (n := 2) (x' := .tup [.str "read", nI x]) rfl rfl (okB_pair (n := 1) (okB_of (okD_nI x))) (by decide) ?_
    exact kk

/-! ### names in common, by the law -/
def dueC (L : List Str) : EV := match L with
  | [] => .str "fine"
  | w :: _ => .tup [.str "name", .str w]
def plR (w : Str) : Row := ⟨w, 0, []⟩
theorem com_sorted {rows : List Row} {B : List Row} {us ys : List Str} (hn : (rows.map (·.w)).Nodup) (hu : us.Nodup) (hB : (B.map (·.w)).Perm us) (hp : ys.Perm (us.filter fun w => decide (w ∈ (sortR rows).map (·.w)))) (hs : sortedS ys = true) : ys = comB (sortR rows) B := by
  have hn' : ((sortR rows).map (·.w)).Nodup := ((sortR_perm rows).map (·.w)).nodup_iff.mpr hn
  refine List.Perm.eq_of_pairwise (le := fun a b : Str => ¬ b.cps.toList < a.cps.toList) (fun a b _ _ h h' => str_le h h') (sortedS_pw hs) ?_ (hp.trans ?_)
  · have : ((sortR rows).map (·.w)).Pairwise fun a b : Str => ¬ b.cps.toList < a.cps.toList := by
      rw [List.pairwise_map]
      exact (sortR_pw rows).imp fun h => rowLe_lt h
    exact this.filter _
  · refine (List.perm_ext_iff_of_nodup (hu.filter _) (hn'.filter _)).mpr fun w => ?_
    simp only [List.mem_filter, decide_eq_true_eq]
    exact ⟨fun ⟨h1, h2⟩ => ⟨h2, hB.mem_iff.mpr h1⟩, fun ⟨h1, h2⟩ => ⟨hB.mem_iff.mp h2, h1⟩⟩
theorem free_ok : ∀ w ∈ (["m", "n", "o"] : List Str), nameOk w = true ∧ w ∉ WORDS := by decide +kernel
theorem besideright_fz {S : Addr → Bool} {xc : XC} {a : Addr} {s : Int × Int × Int} {dims md b : Int} {rows : List Row} {eh : Eh} {q : KE} (hS : S = nw eh) (ha : eh a = some (rgO s)) (hs : RgOk b s) (hb : b + 400 ≤ 900000000) (h : SysFit dims md rows) (hw : ∀ r ∈ rows, r.w ∈ WORDS)
    (k : ∀ s' : Int × Int × Int, RgOk (b + 300) s' → q (.bl true) (eupd eh a (some (rgO s')))) : ([EV.ref a, sysE dims md (sortR rows)] ++ []).length = 2 ∧ FZ S fn__law_beside_right xc ([EV.ref a, sysE dims md (sortR rows)] ++ []) eh q := by
  refine ⟨rfl, ?_⟩
  subst hS
  have srt := h.sort
  have hl := srt.l
  have hd3 := h.d
  have han : eh a ≠ none := by rw [ha]; simp
  unfold FZ fn__law_beside_right ms__law_beside_right
  walk_at "go"
  refine ⟨_, rfl, rfl, ?_⟩
  refine names_fz rfl ?_
  rw [names_E]
  walk_at "go"
  refine draw_fz rfl ha hs (by omega) (by omega) (by omega) fun v s1 v0 v1 hs1 => ?_
  walk_at "go"
  refine slL_i (L := (["m", "n", "o"] : List Str).map .str) rfl ?_
  obtain ⟨vi, rfl⟩ := Int.eq_ofNat_of_zero_le v0
  rw [show (1 : Int) + (vi : Int) = ((1 + vi : Nat) : Int) by omega, cut_to, ← List.map_take]
  walk_at "go"
  refine mixed_fz rfl eupd_same hs1 (by omega) (by simp; omega) fun ts s2 hts hs2 => ?_
  rw [eupd_eupd]
  walk_at "go"
  refine draw_fz rfl eupd_same hs2 (by omega) (by omega) (by omega) fun v2 s3 v20 v21 hs3 => ?_
  rw [eupd_eupd]
  walk_at "go"
  refine slL_i (L := ts.map .str) rfl ?_
  obtain ⟨wi, rfl⟩ := Int.eq_ofNat_of_zero_le v20
  rw [cut_to, ← List.map_take]
  refine addF_i (szL (by simp; omega)) ?_
  rw [← List.map_append]
  have hU : ((["m", "n", "o"] : List Str).take (1 + vi) ++ ts.take wi).Nodup := by
    refine List.nodup_append.mpr ⟨List.Nodup.sublist (List.take_sublist _ _) (by decide +kernel), List.Nodup.sublist (List.take_sublist _ _) (hts.nodup_iff.mpr srt.nd), fun x hx y hy e => ?_⟩
    subst e
    have h1 := (free_ok x (List.mem_of_mem_take hx)).2
    have h2 := hts.mem_iff.mp (List.mem_of_mem_take hy)
    obtain ⟨r, hr, rfl⟩ := List.mem_map.mp h2
    exact h1 (hw r ((sortR_perm rows).mem_iff.mp hr))
  have hUl : 1 ≤ ((["m", "n", "o"] : List Str).take (1 + vi) ++ ts.take wi).length ∧ ((["m", "n", "o"] : List Str).take (1 + vi) ++ ts.take wi).length ≤ 4 := by
    rw [List.length_append, List.length_take, List.length_take]
    show 1 ≤ min (1 + vi) 3 + min wi ts.length ∧ min (1 + vi) 3 + min wi ts.length ≤ 4
    omega
  have hUn : ∀ w ∈ (["m", "n", "o"] : List Str).take (1 + vi) ++ ts.take wi, nameOk w = true := fun w hw' => by
    rcases List.mem_append.mp hw' with hw' | hw'
    · exact (free_ok w (List.mem_of_mem_take hw')).1
    · have h2 := hts.mem_iff.mp (List.mem_of_mem_take hw')
      obtain ⟨r, hr, rfl⟩ := List.mem_map.mp h2
      exact (srt.r r hr).w
  generalize (["m", "n", "o"] : List Str).take (1 + vi) ++ ts.take wi = U0 at hU hUl hUn ⊢
  walk_at "go"
  refine mixed_fz (by rw [nw_eupd han]) eupd_same hs3 (by omega) (by omega) fun us s4 hus hs4 => ?_
  rw [eupd_eupd]
  have uN := hus.nodup_iff.mpr hU
  have uL := hus.length_eq
  have uK : ∀ w ∈ us, nameOk w = true := fun w hw' => hUn w (hus.mem_iff.mp hw')
  walk_at "go"
  refine ⟨_, rfl, rfl, ?_⟩
  refine dims_fz rfl ?_
  walk_at "go"
  refine comp_map (c := EV.str) (f := fun w => rowE (plR w)) trivial (by simp; omega) (fun w _ => asgx_i rfl fun q' hq' => ?_) ?_
  · unfold ce__law_beside_right_1
    walk_at "go"
    exact hq'
  rw [List.nil_append]
  walk_at "go"
  refine ⟨_, rfl, rfl, ?_⟩
  refine mod_fz rfl ?_
  walk_at "go"
  refine ⟨rfl, ?_⟩
  rw [show (us.map fun w => rowE (plR w)) = (us.map plR).map rowE by rw [List.map_map]; rfl]
  have eW : (us.map plR).map (·.w) = us := by rw [List.map_map]; exact (List.map_congr_left fun _ _ => rfl).trans (List.map_id us)
  have fB : SysFit dims md (us.map plR) := by
    refine ⟨h.d, by rw [List.length_map]; omega, by rw [eW]; exact uN, fun r hr => ?_, ?_, h.m, fun r hr x hx => ?_⟩
    · obtain ⟨w, hw', rfl⟩ := List.mem_map.mp hr
      exact ⟨uK w hw', by simp [plR]⟩
    · have : ∀ l : List Str, ((l.map plR).map fun r => r.rs.length).sum = 0 := fun l => by
        induction l with
        | nil => rfl
        | cons x l ih => simp only [List.map_cons, List.sum_cons, ih]; rfl
      rw [this]; exact Nat.zero_le _
    · obtain ⟨w, hw', rfl⟩ := List.mem_map.mp hr
      cases hx
  refine init_mz rfl fB ?_
  walk_at "go"
  refine comp_filter (c := EV.str) (f := EV.str) (p := fun w => decide (w ∈ (sortR rows).map (·.w))) trivial (by simp; omega) (fun w _ => asgx_i rfl ⟨fun qt hq => ?_, fun _ q' hq' => ?_⟩) ?_
  · walk_at "go"
    refine wIn_i rfl ?_
    rw [Bool.false_xor]
    exact ⟨_, rfl, hq⟩
  · walk_at "go"
    exact hq'
  rw [List.nil_append]
  walk_at "go"
  refine bsortS_i rfl (Nat.lt_of_le_of_lt (List.length_filter_le _ _) (by omega)) fun ys hys hysS => ?_
  have eC := com_sorted (B := sortR (us.map plR)) h.nd uN (by rw [show (List.map (·.w) (sortR (us.map plR))).Perm us ↔ True from ⟨fun _ => trivial, fun _ => by have := (sortR_perm (us.map plR)).map (·.w); rwa [eW] at this⟩]; trivial) hys hysS
  subst eC
  have kk : q (fz (nw eh) (eupd eh a (some (rgO s4))) 9 (.bl true)) (drE (nw eh) (eupd eh a (some (rgO s4)))) := fin_rg (n := 0) han rfl (k s4 (hs4.mono (by omega)))
  walk_at "go"
  simp only [List.length_map]
  refine cD_i (fun hg => ?_) (fun hg => ?_)
  · walk_at "go"
    exact kk
  walk_at "go"
  cases hcom : comB (sortR rows) (sortR (us.map plR)) with
  | nil =>
    have dis : ∀ r ∈ sortR rows, r.w ∉ us := fun r hr hb => by
      have := List.filter_eq_nil_iff.mp hcom r.w (List.mem_map.mpr ⟨r, hr, rfl⟩)
      have e2 : r.w ∈ (sortR (us.map plR)).map (·.w) := ((sortR_perm (us.map plR)).map (·.w)).mem_iff.mpr (by rw [eW]; exact hb)
      simp [e2] at this
    have fAB : SysFit dims md (sortR rows ++ sortR (us.map plR)) := by
      have sB := fB.sort
      have lB := (sortR_perm (us.map plR)).length_eq
      rw [List.length_map] at lB
      refine ⟨h.d, ?_, ?_, fun r hr => ?_, ?_, h.m, fun r hr x hx => ?_⟩
      · rw [List.length_append, lB]
        have e1 : ((sortR rows).length : Int) + (us.length : Int) ≤ 6 := by omega
        omega
      · rw [List.map_append]
        refine List.nodup_append.mpr ⟨srt.nd, sB.nd, fun x hx y hy e => ?_⟩
        subst e
        obtain ⟨r, hr, rfl⟩ := List.mem_map.mp hx
        refine dis r hr ?_
        have := ((sortR_perm (us.map plR)).map (·.w)).mem_iff.mp hy
        rwa [eW] at this
      · rcases List.mem_append.mp hr with hr | hr
        · exact srt.r r hr
        · exact sB.r r hr
      · rw [List.map_append, List.sum_append]
        have := sB.t
        have e0 : ((sortR (us.map plR)).map fun r => r.rs.length).sum = 0 := by
          rw [sum_perm (sortR_perm _)]
          have : ∀ l : List Str, ((l.map plR).map fun r => r.rs.length).sum = 0 := fun l => by
            induction l with
            | nil => rfl
            | cons x l ih => simp only [List.map_cons, List.sum_cons, ih]; rfl
          exact this us
        rw [e0]
        exact srt.t
      · rw [List.map_append]
        rcases List.mem_append.mp hr with hr | hr
        · exact List.mem_append_left _ (srt.tg r hr x hx)
        · exact List.mem_append_right _ (sB.tg r hr x hx)
    refine raised3_good rfl (fun xc => beside_fz rfl fAB ?_)
    walk_at "go"
    refine eq_i (n := 2) (m := 1) (x' := .lst ([] : List EV)) (y' := .lst []) true rfl rfl rfl rfl (by decide) (by decide) (by simp) ?_
    refine ⟨_, rfl, ?_⟩
    refine cF_i ?_
    walk_at "go"
    exact kk
  | cons w Z =>
    refine raised3_bad (n := 0) rfl clN rfl (fun xc q kx => beside_bad hcom kx) ?_
    walk_at "go"
    refine eq_i (n := 2) (m := 1) (x' := .lst ((w :: Z).map .str)) (y' := .lst []) false rfl rfl (okD_map fun x _ => okD_str) rfl (by decide) (by decide) (by simp) ?_
    refine ⟨_, rfl, ?_⟩
    refine cT_i ?_
    walk_at "go"
    refine ix_i rfl at_zero ?_
    walk_at "go"
    refine eqS_same (n := 2) (x' := .tup [.str "name", .str w]) rfl rfl rfl (by decide) ?_
    exact kk

/-! ### new names, by the law -/
def dueRE : Option (Str × Str × Str) → EV
  | none => .str "fine"
  | some (wd, _, v) => .tup [.str wd, .str v]
theorem okD_dueRE (o : Option (Str × Str × Str)) : okD 1 (dueRE o) = true := by
  cases o <;> rfl
theorem dueR_cls {names ys : List Str} {kvs : List (Str × Str)} {wd C v : Str} (h : dueR names kvs ys = some (wd, C, v)) : Cls C wd := by
  unfold dueR at h
  split at h
  · cases h; exact clT
  split at h
  · cases h; exact clN
  · cases h
/-- names that are not odd, letter by letter -/
theorem odd_letters {w : Str} (hl : w.length ≤ 90) : nameOk w = (decide (w.cps.toList.filter (fun c => !inL c) = []) && (decide (1 ≤ w.length) && decide (w.length ≤ 8))) := by
  unfold nameOk
  have e : decide (w.cps.toList.filter (fun c => !inL c) = []) = w.cps.toList.all inL := by
    rw [← Bool.coe_iff_coe, decide_eq_true_eq, List.filter_eq_nil_iff, List.all_eq_true]
    exact ⟨fun h a ha => by simpa using h a ha, fun h a ha => by simp [h a ha]⟩
  rw [e]
  cases w.cps.toList.all inL <;> cases decide (1 ≤ w.length) <;> cases decide (w.length ≤ 8) <;> rfl
theorem renamed_due_fz {S : Addr → Bool} {xc : XC} {names : List Str} {kvs : List (Str × Str)} {ys : List Str} {p : Addr} {eh : Eh} {q : KE} (hS : S = nw eh) (hp : eh p = some (.dct (ndE kvs))) (hkl : kvs.length ≤ 20) (hnl : names.length ≤ 20) (hsm : ∀ p ∈ kvs, p.2.length ≤ 90)
    (hy : ys.Perm (kvs.map (·.1))) (hys : sortedS ys = true) (k : q (dueRE (dueR names kvs ys)) eh) : ([EV.lst (names.map .str), .ref p] ++ []).length = 2 ∧ FZ S fn__law_renamed_due xc ([EV.lst (names.map .str), .ref p] ++ []) eh q := by
  refine ⟨rfl, ?_⟩
  subst hS
  have hN0 : dctE eh (.ref p) = some (ndE kvs) := by simp only [dctE, hp]
  have hks : (ndE kvs).map (·.1) = (kvs.map (·.1)).map Sum.inr := nd_keys kvs
  have fin : ∀ x, x = dueRE (dueR names kvs ys) → q (fz (nw eh) eh 9 x) (drE (nw eh) eh) := fun x e => by
    subst e
    exact fin_data (n := 1) .refl (okB_of (okD_dueRE _)) k
  unfold FZ fn__law_renamed_due ms__law_renamed_due
  walk_at "go"
  refine bsortD_i hN0 hks (by rw [List.length_map]; omega) fun ys1 h1 h1s => ?_
  obtain rfl := sorted_uniq (h1.trans hy.symm) h1s hys
  walk_at "go"
  refine for_inv (c := EV.str) (fun L es eh' => (∃ done, ys1 = done ++ L ∧ ∀ u ∈ done, u ∈ names) ∧ eh = eh' ∧ ∃ z2, es = [some (.lst (names.map .str)), some (.ref p), z2, none, none, none, none, none]) ⟨⟨[], rfl, by simp⟩, rfl, _, rfl⟩ ?_ ?_
  · rintro y L es eh' ⟨⟨done, hdn, hdo⟩, rfl, z2, rfl⟩
    refine ⟨trivial, asgx_i rfl fun d' hrt hn _ _ => ?_⟩
    unfold bd__law_renamed_due_1
    walk_at "go"
    refine wIn_i rfl ?_
    rw [Bool.true_xor]
    refine ⟨_, rfl, ?_⟩
    refine cN_i (fun hyr => ?_) (fun hyr => ?_)
    · walk_at "go"
      rw [hrt]
      refine fin _ ?_
      have e : (ys1.filter fun w => !decide (w ∈ names)) = y :: L.filter fun w => !decide (w ∈ names) := by
        rw [hdn, List.filter_append, List.filter_eq_nil_iff.mpr fun u hu => by simpa using hdo u hu, List.filter_cons, if_pos (by simpa using hyr)]; rfl
      unfold dueR
      rw [e]; rfl
    · walk_at "go"
      exact hn _ _ ⟨⟨done ++ [y], by simp [hdn], fun u hu => by
        rcases List.mem_append.mp hu with hu | hu
        · exact hdo u hu
        · rw [List.mem_singleton.mp hu]; exact hyr⟩, rfl, _, rfl⟩
  rintro es eh' ⟨⟨done, hdn, hdo⟩, rfl, z2, rfl⟩
  rw [List.append_nil] at hdn
  subst hdn
  refine ⟨trivial, ?_⟩
  have eD : dueR names kvs ys1 = match ys1.filter (badN names kvs) with
    | w :: _ => some (("name" : Str), ("InvalidName" : Str), nv kvs w)
    | [] => none := by
    unfold dueR
    rw [List.filter_eq_nil_iff.mpr fun u hu => by simpa using hdo u hu]
    all_goals rfl
  walk_at "go"
  refine comp_map (c := EV.str) (f := fun w => EV.str (rnV kvs w)) trivial (by simp; omega) (fun w _ => asgx_i rfl fun q' hq' => ?_) ?_
  · unfold ce__law_renamed_due_2
    refine dget2_i ?_
    walk_at "go"
    refine ⟨⟨_, hN0⟩, ?_⟩
    walk_at "go"
    refine ⟨_, .inr w, hN0, rfl, ?_⟩
    rw [getK_nd]
    unfold rnV at hq'
    cases e : kvs.lookup w with
    | none => rw [e] at hq'; exact hq'
    | some v => rw [e] at hq'; exact hq'
  rw [List.nil_append, show (names.map fun w => EV.str (rnV kvs w)) = (laterL names kvs).map .str by unfold laterL; rw [List.map_map]; rfl]
  walk_at "go"
  refine bsortD_i hN0 hks (by rw [List.length_map]; omega) fun ys2 h2 h2s => ?_
  obtain rfl := sorted_uniq (h2.trans hy.symm) h2s hys
  walk_at "go"
  refine for_inv (c := EV.str) (fun L es eh' => (∃ done, ys2 = done ++ L ∧ ∀ u ∈ done, badN names kvs u = false) ∧ eh = eh' ∧ ∃ z2 z4 z5, es = [some (.lst (names.map .str)), some (.ref p), z2, some (.lst ((laterL names kvs).map .str)), z4, z5, none, none]) ⟨⟨[], rfl, by simp⟩, rfl, _, _, _, rfl⟩ ?_ ?_
  · rintro y L es eh' ⟨⟨done, hdn, hdo2⟩, rfl, z2, z4, z5, rfl⟩
    refine ⟨trivial, asgx_i rfl fun d' hrt hn _ _ => ?_⟩
    have hyk : y ∈ kvs.map (·.1) := hy.mem_iff.mp (by rw [hdn]; simp)
    have hv := getK_nv hyk
    have hvl : (nv kvs y).length ≤ 90 := by
      unfold nv
      cases e : kvs.lookup y with
      | none => decide
      | some v => exact hsm _ (look_mem e)
    have bad : badN names kvs y = true → d'.rt (.tup [.str "name", .str (nv kvs y)]) eh := fun hb => by
      rw [hrt]
      refine fin _ ?_
      have e : ys2.filter (badN names kvs) = y :: L.filter (badN names kvs) := by
        rw [hdn, List.filter_append, List.filter_eq_nil_iff.mpr fun u hu => by simp [hdo2 u hu], List.filter_cons, if_pos hb]; rfl
      rw [eD, e]; rfl
    unfold bd__law_renamed_due_4
    walk_at "go"
    refine ixd_i hN0 rfl hv ?_
    walk_at "go"
    have hcl : (nv kvs y).cps.toList.length ≤ 90 := by
      have : (nv kvs y).cps.toList.length = (nv kvs y).length := by rw [Array.length_toList]; rfl
      omega
    refine ⟨_, _, rfl, ?_⟩
    refine comp_filter (c := fun c : Nat => EV.str ⟨#[c]⟩) (f := fun c => EV.str ⟨#[c]⟩) (p := fun c => !inL c) trivial (by rw [List.length_nil]; omega) (fun c hc => asgx_i rfl ⟨fun qt hq => ?_, fun _ q' hq' => ?_⟩) ?_
    · walk_at "go"
      show ∃ k, EV.bl (true ^^ inL c) = .bl k ∧ qt k eh
      exact ⟨_, rfl, by rw [Bool.true_xor]; exact hq⟩
    · walk_at "go"
      exact hq'
    rw [List.nil_append]
    walk_at "go"
    refine eq_i (n := 1) (m := 1) (x' := .lst (((nv kvs y).cps.toList.filter fun c => !inL c).map fun c => EV.str ⟨#[c]⟩)) (y' := .lst []) (decide ((nv kvs y).cps.toList.filter (fun c => !inL c) = [])) rfl rfl (okD_map fun _ _ => rfl) rfl (by decide) (by decide) ?_ ?_
    · rw [decide_eq_true_eq, EV.lst.injEq, List.map_eq_nil_iff]
    rw [Bool.true_xor]
    refine ⟨_, rfl, ?_⟩
    have oddl := odd_letters hvl
    refine cN_i (fun ho => ?_) (fun ho => ?_)
    · rw [decide_eq_false ho] at oddl
      refine cT_i ?_
      walk_at "go"
      exact bad (by simp [badN, oddl])
    · rw [decide_eq_true ho, Bool.true_and] at oddl
      walk_at "go"
      refine lenS_i (szL (by omega)) ?_
      walk_at "go"
      refine cD_i (fun h1 => ?_) (fun h1 => ?_)
      · walk_at "go"
        refine cN_i (fun h2 => ?_) (fun h2 => ?_)
        · walk_at "go"
          exact bad (by rw [decide_eq_false (show ¬ (nv kvs y).length ≤ 8 by omega), Bool.and_false] at oddl; simp [badN, oddl])
        · walk_at "go"
          refine ⟨⟨_, rfl⟩, ?_⟩
          walk_at "go"
          refine ⟨_, _, rfl, rfl, ?_⟩
          walk_at "go"
          have hno : nameOk (nv kvs y) = true := by rw [oddl, decide_eq_true (show 1 ≤ (nv kvs y).length by omega), decide_eq_true (show (nv kvs y).length ≤ 8 by omega)]; rfl
          refine cD_i (fun hc => ?_) (fun hc => ?_)
          · walk_at "go"
            exact bad (by simp only [badN, hno, Bool.not_true, Bool.false_or, decide_eq_true_eq]; omega)
          · walk_at "go"
            exact hn _ _ ⟨⟨done ++ [y], by simp [hdn], fun u hu => by
              rcases List.mem_append.mp hu with hu | hu
              · exact hdo2 u hu
              · rw [List.mem_singleton.mp hu]; simp only [badN, hno, Bool.not_true, Bool.false_or, decide_eq_false_iff_not]; omega⟩, rfl, _, _, _, rfl⟩
      · walk_at "go"
        exact bad (by rw [decide_eq_false (show ¬ 1 ≤ (nv kvs y).length by omega), Bool.false_and] at oddl; simp [badN, oddl])
  · rintro es eh' ⟨⟨done, hdn, hdo2⟩, rfl, z2, z4, z5, rfl⟩
    rw [List.append_nil] at hdn
    subst hdn
    refine ⟨trivial, ?_⟩
    walk_at "go"
    refine fin _ ?_
    rw [eD, List.filter_eq_nil_iff.mpr fun y hy => by simp [hdo2 y hy]]; rfl
theorem door4 {S : Addr → Bool} {xc : XC} {dims md : Int} {rs : List Row} {kvs : List (Str × Str)} {ys : List Str} {p : Addr} {eh : Eh} {q : KE} (hS : S = nw eh) (h : SysFit dims md rs) (hp : eh p = some (.dct (ndE kvs))) (hkd : (kvs.map (·.1)).Nodup) (hkl : kvs.length ≤ 20) (hsm : ∀ p ∈ kvs, p.2.length ≤ 90)
    (hy : ys.Perm (kvs.map (·.1))) (hys : sortedS ys = true) (k : q (dueRE (dueR (rs.map (·.w)) kvs ys)) eh) : ([EV.int 4, sysE dims md rs, .ref p] ++ []).length = 3 ∧ FZ S fn__law_raised xc ([EV.int 4, sysE dims md rs, .ref p] ++ []) eh q := by
  have hN : ∀ eh', Kp eh eh' → dctE eh' (.ref p) = some (ndE kvs) := fun eh' j => by
    have : eh' p = some (.dct (ndE kvs)) := (j p (by rw [hp]; simp)).trans hp
    simp only [dctE, this]
  cases hd : dueR (rs.map (·.w)) kvs ys with
  | none =>
    rw [hd] at k
    refine raised4_good hS fun xc => renamed_fz rfl h (rn_of_due h.nd hkd hy hd) hkl hN (fun z e => by cases e) k
  | some t =>
    obtain ⟨wd, C, v⟩ := t
    rw [hd] at k
    exact raised4_bad (n := 0) hS (dueR_cls hd) rfl (fun xc q kx => renamed_bad h hkl hsm hN hy hys hd kx) k
theorem door5 {S : Addr → Bool} {xc : XC} {dims md : Int} {rs : List Row} {π : List Int} {eh : Eh} {q : KE} (hS : S = nw eh) (h : SysFit dims md rs) (k : q (if srt π = axs dims then .str "fine" else .tup [.str "axes", .tup (π.map .int)]) eh) : ([EV.int 5, sysE dims md rs, .tup (π.map .int)] ++ []).length = 3 ∧ FZ S fn__law_raised xc ([EV.int 5, sysE dims md rs, .tup (π.map .int)] ++ []) eh q := by
  by_cases he : srt π = axs dims
  · rw [if_pos he] at k
    exact raised5_good hS fun xc => exchanged_fz rfl h (srt_ax he) k
  · rw [if_neg he] at k
    exact raised5_bad (n := 1) hS clA (okB_of (okD_ints _)) (fun xc q kx => exchanged_bad h.d he kx) k

/-! ### the law -/
theorem good_b4 {dims many most wide md : Int} {rows : List Row} (h : Good dims many most wide rows) (hw : wide ≤ 1000) (hd : 1 ≤ dims ∧ dims ≤ 3) (hm : 1 ≤ many ∧ many ≤ 6) (hmd : 2 ≤ md) (hs : sm md) (ho : most ≤ 12) : SysB dims md rows where
  f := good_fit h hd hm hmd ho
  m := hs
  r := fun r hr => ⟨W_ch r.w (h.wd r hr), Nat.lt_of_le_of_lt (show r.n.natAbs ≤ 1000 by have := h.num r hr; omega) (by decide +kernel), fun x hx => by
    have z := h.rd r hr x hx
    obtain ⟨r', hr', e⟩ := List.mem_map.mp z.t
    refine ⟨by rw [← e]; exact W_ch _ (h.wd r' hr'), fun n hn => ?_, ?_⟩
    · exact Nat.lt_of_le_of_lt (show n.natAbs ≤ 1001 by have := z.b n hn; omega) (by decide +kernel)
    · exact Nat.lt_of_le_of_lt (show x.f.natAbs ≤ 1001 by have := z.f; omega) (by decide +kernel)⟩
theorem pw_rising : ∀ {r : List Str} {p : Str}, (p :: r).Pairwise (fun a b => ¬ b.cps.toList < a.cps.toList) → risingS p r = true
  | [], p, _ => rfl
  | x :: r, p, h => by
    obtain ⟨h1, h2⟩ := List.pairwise_cons.mp h
    show (!ltCps x.cps.toList p.cps.toList && risingS x r) = true
    rw [Bool.and_eq_true, ltCps_eq]
    exact ⟨by simpa using h1 x (by simp), pw_rising h2⟩
theorem pw_sortedS : ∀ {ys : List Str}, ys.Pairwise (fun a b => ¬ b.cps.toList < a.cps.toList) → sortedS ys = true
  | [], _ => rfl
  | _ :: _, h => pw_rising h
def sortW (ks : List Str) : List Str := (sortR (ks.map plR)).map (·.w)
theorem sortW_perm (ks : List Str) : (sortW ks).Perm ks := by
  have := (sortR_perm (ks.map plR)).map (·.w)
  have eW : (ks.map plR).map (·.w) = ks := by rw [List.map_map]; exact (List.map_congr_left fun _ _ => rfl).trans (List.map_id ks)
  rwa [eW] at this
theorem sortW_ok (ks : List Str) : sortedS (sortW ks) = true := by
  refine pw_sortedS ?_
  unfold sortW
  rw [List.pairwise_map]
  exact (sortR_pw _).imp fun h => rowLe_lt h
theorem nd_app (kvs : List (Str × Str)) (k v : Str) : ndE kvs ++ [(Sum.inr k, .str v)] = ndE (kvs ++ [(k, v)]) := by simp [ndE]
def NEW5 : List Str := ["q", "B", "", "abcdefghi", "abcdefgh"]
theorem new5_ok : ∀ w ∈ NEW5, w.length ≤ 90 := by decide +kernel
theorem xz_ok : ("x" : Str) ∉ WORDS ∧ ("zzz" : Str) ∉ WORDS ∧ (["x", "zzz"] : List Str).Nodup := by decide +kernel
/-- a dict of new names, made -/
theorem dict_ok {xc : XC} {d : Dn} {a p : Addr} {names : List Str} {z0 z2 z3 z4 z5 z7 z10 : Option EV} (hap : p ≠ a) (hnl : names.length ≤ 10) (hnw : ∀ w ∈ names, w.length ≤ 90) : ∀ (L : List Str) (kvs : List (Str × Str)) (s : Int × Int × Int) (b : Int) (z9 : Option EV) (eh : Eh), (kvs.map (·.1) ++ L).Nodup → kvs.length + L.length ≤ 20 → (∀ p ∈ kvs, p.2.length ≤ 90) → eh a = some (rgO s) → eh p = some (.dct (ndE kvs)) → RgOk b s → b + L.length ≤ 900000000 →
    (∀ (kvs : List (Str × Str)) (s' : Int × Int × Int) (z9 : Option EV) (eh' : Eh), (kvs.map (·.1)).Nodup → kvs.length ≤ 20 → (∀ p ∈ kvs, p.2.length ≤ 90) → eh' a = some (rgO s') → eh' p = some (.dct (ndE kvs)) → RgOk (b + L.length) s' → d.nx [z0, some (.ref a), z2, z3, z4, z5, some (.lst (names.map .str)), z7, some (.ref p), z9, z10] eh') →
    forL (.nm 9) bd_law_1 (fun _ => True) xc d (L.map .str) [z0, some (.ref a), z2, z3, z4, z5, some (.lst (names.map .str)), z7, some (.ref p), z9, z10] eh
  | [], kvs, s, b, z9, eh, hn, hl, hv, ha, hp, hs, hb, k => forL_nil trivial (k kvs s z9 eh (by simpa using hn) (by simpa using hl) hv ha hp (hs.mono (by simp)))
  | w :: L, kvs, s, b, z9, eh, hn, hl, hv, ha, hp, hs, hb, k => by
    simp only [List.length_cons] at hl hb
    refine forL_cons trivial rfl ?_
    unfold bd_law_1
    walk_at "go"
    refine addF_i (szL (by simp; omega)) ?_
    walk_at "go"
    rw [List.length_map]
    walk_at "go"
    refine draw_fz rfl ha hs (by omega) (by omega) (by omega) fun v s1 v0 v1 hs1 => ?_
    have hvi : v.toNat < (NEW5 ++ names).length := by rw [List.length_append]; show _ < 5 + names.length; omega
    obtain ⟨u, hu, eu⟩ : ∃ u ∈ NEW5 ++ names, (NEW5 ++ names)[v.toNat]? = some u := ⟨_, List.getElem_mem hvi, List.getElem?_eq_getElem hvi⟩
    refine ix_i (xs := (NEW5 ++ names).map .str) (z := .str u) (by rw [List.map_append]; rfl) (by rw [show v = ((v.toNat : Nat) : Int) by omega]; exact at_cells eu) ?_
    walk_at "go"
    have hul : u.length ≤ 90 := by
      rcases List.mem_append.mp hu with hu | hu
      · exact new5_ok u hu
      · exact hnw u hu
    have hk : w ∉ kvs.map (·.1) := fun z => (List.nodup_append.mp hn).2.2 w z w (by simp) rfl
    refine ⟨p, ndE kvs, .inr w, rfl, by rw [eupd_ne hap]; exact hp, rfl, szT (by simp [ndE]; omega), ?_⟩
    rw [put_new (by rw [nd_keys]; exact fun z => by obtain ⟨x, hx, e⟩ := List.mem_map.mp z; cases e; exact hk hx), nd_app]
    refine dict_ok hap hnl hnw L (kvs ++ [(w, u)]) s1 (b + 1) _ _ (by simpa using hn) (by simp; omega) (fun x hx => ?_) (by rw [eupd_ne hap.symm, eupd_same]) eupd_same hs1 (by omega) fun kvs' s' z9 eh' h1 h2 h3 h4 h5 h6 => k kvs' s' z9 eh' h1 h2 h3 h4 h5 (h6.mono (by simp; omega))
    rcases List.mem_append.mp hx with hx | hx
    · exact hv x hx
    · rw [List.mem_singleton.mp hx]; exact hul
theorem axes_ok {xc : XC} {d : Dn} {dims md : Int} {rs : List Row} {z0 z1 z2 z5 z6 z8 z9 : Option EV} {eh : Eh} (h : SysFit dims md rs) : ∀ (L : List (List Int)) (z7 z10 : Option EV), (∀ z7 z10, d.nx [z0, z1, z2, some (.int dims), some (sysE dims md rs), z5, z6, z7, z8, z9, z10] eh) →
    forL (.nm 7) bd_law_3 (fun _ => True) xc d (L.map fun π => .tup (π.map .int)) [z0, z1, z2, some (.int dims), some (sysE dims md rs), z5, z6, z7, z8, z9, z10] eh
  | [], z7, z10, k => forL_nil trivial (k z7 z10)
  | π :: L, z7, z10, k => by
    have hd := h.d
    refine forL_cons trivial rfl ?_
    unfold bd_law_3
    walk_at "go"
    refine bsortU_any ?_
    refine lrg_i ?_
    walk_at "go"
    refine ⟨dims.toNat, by rw [Int.toNat_of_nonneg (by omega)], by omega, ?_⟩
    rw [axs_E]
    refine axes_cmp ?_
    rw [Bool.false_xor]
    refine ⟨_, rfl, ?_⟩
    refine cD_i (fun he => ?_) (fun he => ?_)
    · walk_at "go"
      refine door5 rfl h ?_
      rw [if_pos he]
      walk_at "go"
      refine neS_same ?_
      refine ⟨_, rfl, ?_⟩
      refine cF_i ?_
      walk_at "go"
      exact axes_ok h L _ _ k
    · walk_at "go"
      refine door5 rfl h ?_
      rw [if_neg he]
      walk_at "go"
      refine eqS_same (n := 2) (x' := .tup [.str "axes", .tup (π.map .int)]) rfl rfl (okB_pair (n := 1) (okB_of (okD_ints _))) (by decide) ?_
      refine ⟨_, rfl, ?_⟩
      refine cF_i ?_
      walk_at "go"
      exact axes_ok h L _ _ k
theorem lap_ok {xc : XC} {d : Dn} {a : Addr} {s : Int × Int × Int} {b : Int} {z0 z2 z3 z4 z5 z6 z7 z8 z9 z10 : Option EV} {eh : Eh} (ha : eh a = some (rgO s)) (hs : RgOk b s) (hb : b + 4400 ≤ 800000000)
    (k : ∀ (s' : Int × Int × Int) (z2 z3 z4 z5 z6 z7 z8 z9 z10 : Option EV) (eh' : Eh), eh' a = some (rgO s') → RgOk (b + 4400) s' → d.nx [z0, some (.ref a), z2, z3, z4, z5, z6, z7, z8, z9, z10] eh') :
    bd_law_4 xc d [z0, some (.ref a), z2, z3, z4, z5, z6, z7, z8, z9, z10] eh := by
  have han : eh a ≠ none := by rw [ha]; simp
  unfold bd_law_4
  walk_at "go"
  refine draw_fz rfl ha hs (by omega) (by omega) (by omega) fun v1 s1 v10 v11 hs1 => ?_
  walk_at "go"
  refine draw_fz rfl eupd_same hs1 (by omega) (by omega) (by omega) fun v3 s3 v30 v31 hs3 => ?_
  walk_at "go"
  refine made_fz (nw_eupd (by rw [eupd_same]; simp)).symm eupd_same hs3 (by omega) (by omega) (by omega) (by omega) (by omega) (by omega) (by omega) (by omega) (by omega) fun rows s4 hg hs4 => ?_
  rw [eupd_eupd, eupd_eupd]
  walk_at "go"
  refine ⟨rfl, ?_⟩
  have sys := good_b4 (md := 97) hg (by decide) (by omega) (by omega) (by decide) (by show (97 : Int).natAbs < 10 ^ 99; exact Nat.lt_of_le_of_lt (show (97 : Int).natAbs ≤ 97 from Nat.le_refl _) (by decide +kernel)) (by decide)
  have fit := sys.f
  have srt := sys.perm (sortR_perm rows).symm
  have wds : ∀ r ∈ rows, r.w ∈ WORDS := hg.wd
  have wdS : ∀ r ∈ sortR rows, r.w ∈ WORDS := fun r hr => wds r ((sortR_perm rows).mem_iff.mp hr)
  have wl : ∀ r ∈ sortR rows, r.w.length ≤ 90 := fun r hr => by have := nameOk_len (srt.f.r r hr).w; omega
  refine init_mz (by rw [nw_eupd han, nw_eupd han]) fit ?_
  walk_at "go"
  refine shown_fz rfl srt ?_
  walk_at "go"
  refine ⟨_, rfl, rfl, ?_⟩
  refine names_fz rfl ?_
  rw [names_E]
  refine ⟨_, _, rfl, ?_⟩
  walk_at "go"
  refine readsright_fz rfl eupd_same hs4 (by omega) srt.f wl fun s5 hs5 => ?_
  rw [eupd_eupd]
  walk_at "go"
  refine besideright_fz rfl eupd_same hs5 (by omega) fit wds fun s6 hs6 => ?_
  rw [eupd_eupd]
  walk_at "go"
  refine ⟨_, rfl, by omega, ?_⟩
  have e : ∀ T : List EV, T = T.map id := fun T => by simp
  rw [e ((List.range _).map _)]
  refine for_inv (fun L es eh' => ∃ (s' : Int × Int × Int) (z7 z8 z9 z10 : Option EV) (c : Int), c + 200 * L.length ≤ b + 3500 ∧ eh' a = some (rgO s') ∧ RgOk c s' ∧ es = [z0, some (.ref a), z2, some (.int (1 + v1)), some (sysE (1 + v1) 97 (sortR rows)), some (.str (shS (1 + v1) 97 (sortR rows))), some (.lst (((sortR rows).map (fun r : Row => r.w)).map .str)), z7, z8, z9, z10]) ?_ ?_ ?_
  · exact ⟨s6, _, _, _, _, b + 2700, by simp only [List.length_map, List.length_range]; omega, eupd_same, hs6.mono (by omega), rfl⟩
  · rintro x L es eh' ⟨s', z7, z8, z9, z10, c, hc, ha', hs', rfl⟩
    simp only [List.length_cons] at hc
    refine ⟨trivial, asgx_i rfl fun d' _ hn _ _ => ?_⟩
    have hl6 := srt.f.l
    unfold bd_law_2
    walk_at "go"
    intro p hp
    have hap : p ≠ a := fun z => by rw [z, ha'] at hp; cases hp
    walk_at "go"
    refine addF_i (szL (by simp; omega)) ?_
    rw [show ((sortR rows).map (fun r : Row => r.w)).map EV.str ++ [.str "x", .str "zzz"] = ((sortR rows).map (fun r : Row => r.w) ++ (["x", "zzz"] : List Str)).map .str by rw [List.map_append]; rfl]
    walk_at "go"
    refine mixed_fz rfl ((eupd_ne hap.symm).trans ha') hs' (by omega) (by simp; omega) fun ts s7 hts hs7 => ?_
    walk_at "go"
    refine draw_fz rfl eupd_same hs7 (by omega) (by omega) (by omega) fun v s8 v0 v1' hs8 => ?_
    walk_at "go"
    refine slL_i (L := ts.map .str) rfl ?_
    obtain ⟨vi, rfl⟩ := Int.eq_ofNat_of_zero_le v0
    rw [show (1 : Int) + (vi : Int) = ((1 + vi : Nat) : Int) by omega, cut_to, ← List.map_take]
    walk_at "go"
    have nd0 : ((sortR rows).map (fun r : Row => r.w) ++ (["x", "zzz"] : List Str)).Nodup := by
      obtain ⟨x1, x2, x3⟩ := xz_ok
      refine List.nodup_append.mpr ⟨srt.f.nd, x3, fun u hu y hy e => ?_⟩
      subst e
      obtain ⟨r, hr, rfl⟩ := List.mem_map.mp hu
      have hw := wdS r hr
      simp only [List.mem_cons, List.not_mem_nil, or_false] at hy
      rcases hy with hy | hy
      · exact x1 (hy ▸ hw)
      · exact x2 (hy ▸ hw)
    have tl := hts.length_eq
    rw [List.length_append, List.length_map] at tl
    refine dict_ok hap (by rw [List.length_map]; omega) (fun w hw => by obtain ⟨r, hr, rfl⟩ := List.mem_map.mp hw; exact wl r hr) (ts.take (1 + vi)) [] s8 (c + 101) _ _ (by
      rw [List.map_nil, List.nil_append]
      exact List.Nodup.sublist (List.take_sublist _ _) (hts.nodup_iff.mpr nd0)) (by rw [List.length_take, List.length_nil, tl]; show 0 + min _ (_ + 2) ≤ 20; omega) (by simp) (by rw [eupd_same]) (by rw [eupd_ne hap, eupd_ne hap, eupd_same]; rfl) (hs8.mono (by omega)) (by rw [List.length_take, tl]; show _ + ((min _ (_ + 2) : Nat) : Int) ≤ _; omega) fun kvs s9 z9 eh9 h1 h2 h3 h4 h5 h6 => ?_
    walk_at "go"
    refine door4 rfl srt.f h5 h1 h2 h3 (sortW_perm _) (sortW_ok _) ?_
    walk_at "go"
    refine renamed_due_fz rfl h5 h2 (by rw [List.length_map]; omega) h3 (sortW_perm _) (sortW_ok _) ?_
    refine eqS_same (n := 1) (x' := dueRE (dueR ((sortR rows).map (fun r : Row => r.w)) kvs (sortW (kvs.map (·.1))))) ?_ ?_ (okB_of (okD_dueRE _)) (by decide) ?_
    · cases dueR ((sortR rows).map (fun r : Row => r.w)) kvs (sortW (kvs.map (·.1))) <;> rfl
    · cases dueR ((sortR rows).map (fun r : Row => r.w)) kvs (sortW (kvs.map (·.1))) <;> rfl
    refine ⟨_, rfl, ?_⟩
    refine cF_i ?_
    walk_at "go"
    exact hn _ _ ⟨s9, _, _, _, _, c + 200, by omega, h4, h6.mono (by rw [List.length_take, tl]; show _ + ((min _ (_ + 2) : Nat) : Int) ≤ _; omega), rfl⟩
  rintro es eh' ⟨s', z7, z8, z9, z10, c, hc, ha', hs', rfl⟩
  refine ⟨trivial, ?_⟩
  obtain ⟨vi, rfl⟩ := Int.eq_ofNat_of_zero_le v10
  walk_at "go"
  have e3 : cutE [EV.int 0, .int 0, .int 0] none (some (1 + (vi : Int))) = (([0, 0, 0] : List Int).take (1 + vi)).map .int := by
    rw [show (1 : Int) + (vi : Int) = ((1 + vi : Nat) : Int) by omega, cut_to, List.map_take]; rfl
  rw [e3]
  refine axes_ok srt.f [[], ([0, 0, 0] : List Int).take (1 + vi), [1, 0], [0, 1], [0, 2, 1], [-1, 0], [0], [1, 2, 3], [2, 1, 0, 3]] _ _ fun z7 z10 => ?_
  walk_at "go"
  refine shown_fz rfl srt ?_
  walk_at "go"
  refine neS_same ?_
  refine ⟨_, rfl, ?_⟩
  refine cF_i ?_
  walk_at "go"
  exact k s' _ _ _ _ _ _ _ _ _ _ ha' (hs'.mono (by omega))
theorem law_pure (ns : List Int) (hl : ns.length ≤ 63) (hb : ∀ z ∈ ns, Builtin.Int.intBits z ≤ 1048576) : fn_law xF [.scr ns] (fun _ => none) fun x _ => x = .bl true := by
  unfold fn_law ms_law
  walk_at "go"
  refine ⟨rfl, ?_⟩
  refine rng_ok hl hb fun a s _ hs => ?_
  walk_at "go"
  refine len_i (xs := ns.map .int) rfl ?_
  rw [List.length_map]
  walk_at "go"
  refine ⟨_, rfl, by split <;> omega, ?_⟩
  have e : ∀ T : List EV, T = T.map id := fun T => by simp
  rw [e ((List.range _).map _)]
  refine for_inv (fun L es eh' => ∃ (s' : Int × Int × Int) (z2 z3 z4 z5 z6 z7 z8 z9 z10 : Option EV) (c : Int), c + 4400 * L.length ≤ 4400 * 36 ∧ eh' a = some (rgO s') ∧ RgOk c s' ∧ es = [some (.scr ns), some (.ref a), z2, z3, z4, z5, z6, z7, z8, z9, z10]) ?_ ?_ ?_
  · exact ⟨s, _, _, _, _, _, _, _, _, _, 0, by simp only [List.length_map, List.length_range]; split <;> omega, eupd_same, hs, rfl⟩
  · rintro x L es eh' ⟨s', z2, z3, z4, z5, z6, z7, z8, z9, z10, c, hc, ha', hs', rfl⟩
    simp only [List.length_cons] at hc
    refine ⟨trivial, asgx_i rfl fun d' _ hn _ _ => ?_⟩
    exact lap_ok ha' hs' (by omega) fun s4 z2 z3 z4 z5 z6 z7 z8 z9 z10 eh4 h1 h2 => hn _ _ ⟨s4, _, _, _, _, _, _, _, _, _, c + 4400, by omega, h1, h2, rfl⟩
  · rintro es eh' ⟨s', z2, z3, z4, z5, z6, z7, z8, z9, z10, c, hc, ha', hs', rfl⟩
    refine ⟨trivial, ?_⟩
    walk_at "go"

end LW
open PySem PySem.W PySem.Calls PyProof.Rows
theorem PySem.Challenge.cw_farreads_k05_errors_of_systems_holds : PySem.Challenge.rw_farreads_k05_errors_of_systems.Holds := by
  w_on; o_law
  refine HandSHeadRun.head_any (r := OpenLaw.row PySem.Challenge.rw_farreads_k05_errors_of_systems) (q := view (OpenLaw.row PySem.Challenge.rw_farreads_k05_errors_of_systems).prog [39]) (H := LW.hk) (ob := LW.ob) (M := 6000) (loose := LW.loose) (d := HandSHeadRun.topDef (OpenLaw.row PySem.Challenge.rw_farreads_k05_errors_of_systems).prog 39) (kwd := []) LW.ob_eq
    (by kernel_rfl) (fun s => by kernel_rfl) LW.run (by kernel_rfl) (by kernel_rfl) (by kernel_rfl) (by rfl) (by first | assumption | decide +kernel) (by decide +kernel) ⟨rfl, rfl, rfl, rfl, rfl, by decide +kernel⟩ ?hw ?hc
  case hw => w_witness2
  case hc =>
    refine VM.walk_end (l := PySem.Challenge.rw_farreads_k05_errors_of_systems) (n := 63) (k := 9) (x := "_law_script") rfl (by decide) (by kernel_rfl) ⟨rfl, by decide, by decide⟩ ?F
    intro w mg fa h Y G hmg0
    obtain ⟨K, KX, c⟩ := Y
    have hmg : mg ("law" : PySem.Str) = some (.ref fa) := by
      have e : (HandSHeadRun.topDef (OpenLaw.row PySem.Challenge.rw_farreads_k05_errors_of_systems).prog 39).name = ("law" : PySem.Str) := by kernel_rfl
      rw [← e]
      exact hmg0
    have e := hmg.symm.trans (He.glo_ok KX G (c.x.t.d.fact 62 (f := .glo "law") rfl))
    cases e
    obtain ⟨fd, F⟩ := c.x.t.d.def_ 0 (d := LW.d_law) rfl
    have b := L2.FunD.bindsA (ps := ["_law_script"]) F fun _ _ _ _ _ _ us hl => match us, hl with | [_], _ => rfl
    exact ⟨K, KX, VM.end_at (F := LW.fn_law) KX G c (fun s v => b s [v] rfl) (fun base W => LW.ok_law W F) fun ns hl hb => LW.law_pure ns hl hb⟩
