import PyProof.Rows.All
import Wide.All
import OpenK.AllK
import Wide.FinOn
import KE.KStateDown
import HandS.Base
import HandS.Call
import HandS.Ends
import HandS.Defaults
import HandS.Head0
import HandS.Head1
import HandS.Head2
import HandS.HeadEnd
import HandS.HeadHook1
import HandS.HeadHook2
import HandS.HeadNt
import HandS.Property
import HandS.IsInst
import HandS.ForMost
import HandS.ForExc
import HandS.Wide
import HandS.Flow
import HandS.Zip
import HandS.TupAny
import HandS.DictComp
import HandS.Style
import HandS.Conv
import HandS.SortInts
import HandS.TryOnly
import HandS.MakeKw
import HandS.OwnEq
import HandS.More
import HandS.MakeKwOnly
import PyProof.InstNe
import HandS.Text
import PyProof.ListStr
import PyProof.TupleOfStr
import HandS.Set
import HandS.SetFor
import PyProof.Rows.SortShellAny
import KE.DataFind
import KE.GoesEnum
import KE.GoesMore
import PyProof.Rows.StrInSeq3
import HandS.List
import PyProof.StrOps2
import HandS.Star
import HandS.ClsMeth
import KE.KDictZip
import HandS.TupSets
import PyProof.TupleKey
import KE.KSortTupAny
import HandS.FStr
import PyProof.Rows.RuleB_bool
import HandS.ExcIs
import HandS.ExcField
import HandS.Deep
import HandS.TupMul
import HandS.SortRule
import PyProof.SeqIndex
import KE.SortData
import PySem.Challenge.RW_deepcuts_k03_forests_as_texts
namespace DL
end DL
namespace DRv
end DRv
namespace DSet
end DSet
namespace DCall
end DCall
namespace L2
end L2
namespace Pk
end Pk
namespace Pg0
end Pg0
namespace Q03
end Q03
section
set_option Elab.async false
set_option linter.all false
set_option maxRecDepth 100000
/-! the head: any tests of the written part, and its defs -/
namespace DL
open PySem PySem.W PySem.Calls PyProof.Rows He He5
def obsF (fa : List (Frag → Bool)) (fn : List DefA) (K : Frag) : He.AlD := ((fa.all fun f => f K) && fn.all fun d => d.ok K, fn.map fun d => fnA K (d.at_ K))
def valF (fn : List DefA) : He.AlD := (true, fn.map DefA.val)
def SaysF (fa : List (Frag → Bool)) (fn : List DefA) (K : Frag) : Prop := obsF fa fn K = valF fn
section
variable {fa : List (Frag → Bool)} {fn : List DefA} {K : Frag}
end
/-! ### addresses -/
def gA (x : PySem.Str) (K : Frag) : Addr := ga K x
def mA (x m : PySem.Str) (K : Frag) : Addr := ma K (ga K x) m
/-- a property's getter -/
def pA (x m : PySem.Str) (K : Frag) : Addr := match recIn K (ma K (ga K x) m) "property" with
  | some (.ref g :: _) => g
  | _ => 0
/-! ### tests -/
def tFa (f : He.Fa) (K : Frag) : Bool := f.ok K
def tProp (x m : PySem.Str) (K : Frag) : Bool := decide (findIn K (.ref (ga K x)) m = some (some (.ref (ma K (ga K x) m)))) && (decide (specialIn K (.ref (ma K (ga K x) m)) "__get__" = some (some (.builtin "property.__get__"))) && (decide (takesIn K (.ref (ma K (ga K x) m)) = some true) && (match recIn K (ma K (ga K x) m) "property" with
  | some (.ref _ :: _) => true
  | _ => false)))
def tSelf (x : PySem.Str) (K : Frag) : Bool := selfFirst K (ga K x)
end DL
end
section
set_option Elab.async false
set_option linter.all false
set_option maxRecDepth 100000
/-! tuples of which the whole object is known (no dict of attributes): dict(t) asks for it -/
namespace DL
open PySem PySem.Spec PyProof.Rows L2
abbrev tObj (us : List Value) : Obj := { cls := .type "tuple", data := .seq us.toArray }
/-- a tuple laid with its object -/
def Bare (H : L2.Hp) (a : Addr) (xs : List V) : Prop := ∃ ob : Obj, ob.dict = none ∧ H a = some (.frz ob (.tup xs))
section
variable {X : Cx} {pn : List (Addr × Obj)} {σ : L2.St} {H : Hp} {s : Shared} {g : Heap} {xs : List V} {us : List Value} {Q : VK}
end
section
variable {X : Cx} {es : List Expr} {pos : Pos} {t : TA}
end
end DL
end
section
set_option Elab.async false
set_option linter.all false
set_option maxRecDepth 100000
/-! enumerate and zip in loops: each pair is bare -/
namespace DL
open PySem PySem.Spec PyProof.Rows L2
section
variable {P : Program} {w : World} {K : PySem.W.Frag} {tg : Expr} {J : It} {fp : List Addr} {it : Addr} {tn : Nat → Heap → Prop} {y : Nat → Hp → List V → Prop}
/-- the pair at the end of the heap s1 is known, and the loop's own objects alone have turned -/
structure PairOut (X : Cx) (fp : List Addr) (it : Addr) (s : Shared) (n : Nat) (us : List Value) (s2 : Shared) : Prop where
  obj : s2.heap.get? s.heap.objs.size = some (tObj us)
  rest : ∀ c o, c ∉ fp → s.heap.get? c = some o → s2.heap.get? c = some o
end
section
variable {P : Program} {w : World} {K : PySem.W.Frag} {elts : List Expr} {kk : Nat} {tpos : Pos}
end
section
variable {X : Cx} {e e2 : Expr} {ta : TA} {p pos tpos : Pos} {elts : List Expr} {kk : Nat}
end
end DL
end
section
set_option Elab.async false
set_option linter.all false
set_option maxRecDepth 100000
/-! DL: deep data over the hand layer -/
namespace DL
open PySem L2
/-- data: frozen things by their content, cells by their address -/
inductive D where
  | non | bl (b : Bool) | int (i : Int) | str (x : Str) | ty (n : String)
  | tup (ds : List D) | lst (ds : List D) | frl (ds : List D)
  | dct (ks : List Key) (ds : List D)
  | ins (C : Addr) (fs : List Str) (ds : List D)
  | cell (a : Addr)
  | exc (C : Addr) (fs : List Str) (ds : List D)
/-- an exception that was caught: its class, its dict -/
def ExT (C : Addr) (od : Option Addr) (a : Addr) : HO := .ext fun h => ∃ (oe : Obj) (vs : Array Value), h.get? a = some oe ∧ oe.cls = .ref C ∧ oe.dict = od ∧ oe.data = .fields vs
def DictF (F : Hp) (od : Option Addr) (l : List (Str × V)) : Prop := match od with
  | none => l = []
  | some dd => l ≠ [] ∧ F dd = some (.xd l)
theorem DictF.mono {F F' : Hp} {od : Option Addr} {l : List (Str × V)} (e : Same F F') (h : DictF F od l) : DictF F' od l := by
  cases od with
  | none => exact h
  | some dd => exact ⟨h.1, e _ _ h.2⟩
/-- a tuple: laid, or of the written part -/
def SqU (K : PySem.W.Frag) (F : Hp) (a : Addr) (xs : List V) : Prop :=
  Bare F a xs ∨ ∃ o : Obj, o.dict = none ∧ ∃ (its : Array Value) (n : Nat), K.lookup a = some o ∧ o.cls = .type "tuple" ∧ o.data = .seq its n ∧ its.size ≤ sizeLine ∧ Vals xs its.toList
mutual
def Is (K : PySem.W.Frag) (F : Hp) : D → V → Prop
  | .non, v => v = .non
  | .bl b, v => v = .bl b
  | .int i, v => v = .int i
  | .str x, v => v = .str x
  | .ty n, v => v = .ty n
  | .tup ds, v => ∃ a vs, v = .ref a ∧ SqU K F a vs ∧ IsL K F ds vs
  | .lst ds, v => ∃ a vs, v = .ref a ∧ F a = some (.lst vs) ∧ IsL K F ds vs
  | .frl ds, v => ∃ a vs, v = .ref a ∧ SqL K F a vs ∧ IsL K F ds vs
  | .dct ks ds, v => ∃ a vs od, v = .ref a ∧ F a = some (.frz od (.dK (ks.zip vs))) ∧ ks.length = ds.length ∧ IsL K F ds vs
  | .ins C fs ds, v => ∃ a dx vs, v = .ref a ∧ F a = some (.ins C dx (fs.zip vs)) ∧ fs.length = ds.length ∧ IsL K F ds vs
  | .cell a, v => v = .ref a
  | .exc C fs ds, v => ∃ a od vs, v = .ref a ∧ F a = some (ExT C od a) ∧ DictF F od (fs.zip vs) ∧ fs.length = ds.length ∧ IsL K F ds vs
def IsL (K : PySem.W.Frag) (F : Hp) : List D → List V → Prop
  | [], vs => vs = []
  | d :: ds, vs => ∃ v r, vs = v :: r ∧ Is K F d v ∧ IsL K F ds r
end

section
variable {K : PySem.W.Frag} {F F' H H' : Hp}
theorem sqT_mono {a : Addr} {xs : List V} (e : Same F F') (h : SqU K F a xs) : SqU K F' a xs := by
  rcases h with ⟨ob, hd, h⟩ | h
  · exact .inl ⟨ob, hd, e _ _ h⟩
  · exact .inr h
mutual
theorem Is.mono (e : Same F F') : ∀ (d : D) (v : V), Is K F d v → Is K F' d v
  | .non, _, h => by unfold Is at h ⊢; exact h
  | .bl _, _, h => by unfold Is at h ⊢; exact h
  | .int _, _, h => by unfold Is at h ⊢; exact h
  | .str _, _, h => by unfold Is at h ⊢; exact h
  | .ty _, _, h => by unfold Is at h ⊢; exact h
  | .cell _, _, h => by unfold Is at h ⊢; exact h
  | .exc C fs ds, _, h => by
    unfold Is at h ⊢
    obtain ⟨a, od, vs, e1, h1, hd, hl, h2⟩ := h
    exact ⟨a, od, vs, e1, e _ _ h1, hd.mono e, hl, IsL.mono e ds vs h2⟩
  | .tup ds, _, h => by
    unfold Is at h ⊢
    obtain ⟨a, vs, e1, h1, h2⟩ := h
    exact ⟨a, vs, e1, sqT_mono e h1, IsL.mono e ds vs h2⟩
  | .lst ds, _, h => by
    unfold Is at h ⊢
    obtain ⟨a, vs, e1, h1, h2⟩ := h
    exact ⟨a, vs, e1, e _ _ h1, IsL.mono e ds vs h2⟩
  | .frl ds, _, h => by
    unfold Is at h ⊢
    obtain ⟨a, vs, e1, h1, h2⟩ := h
    exact ⟨a, vs, e1, e.seq h1, IsL.mono e ds vs h2⟩
  | .dct ks ds, _, h => by
    unfold Is at h ⊢
    obtain ⟨a, vs, od, e1, h1, hl, h2⟩ := h
    exact ⟨a, vs, od, e1, e _ _ h1, hl, IsL.mono e ds vs h2⟩
  | .ins C fs ds, _, h => by
    unfold Is at h ⊢
    obtain ⟨a, dx, vs, e1, h1, hl, h2⟩ := h
    exact ⟨a, dx, vs, e1, e _ _ h1, hl, IsL.mono e ds vs h2⟩
theorem IsL.mono (e : Same F F') : ∀ (ds : List D) (vs : List V), IsL K F ds vs → IsL K F' ds vs
  | [], _, h => by unfold IsL at h ⊢; exact h
  | d :: ds, _, h => by
    unfold IsL at h ⊢
    obtain ⟨v, r, e1, h1, h2⟩ := h
    exact ⟨v, r, e1, Is.mono e d v h1, IsL.mono e ds r h2⟩
end
theorem is_cell {a : Addr} {v : V} : Is K F (.cell a) v ↔ v = .ref a := by unfold Is; exact Iff.rfl
theorem isL_nil {vs : List V} : IsL K F [] vs ↔ vs = [] := by unfold IsL; exact Iff.rfl
theorem isL_cons {d : D} {ds : List D} {vs : List V} : IsL K F (d :: ds) vs ↔ ∃ v r, vs = v :: r ∧ Is K F d v ∧ IsL K F ds r := by
  constructor
  · intro h; unfold IsL at h; exact h
  · intro h; unfold IsL; exact h
theorem IsL.nil : IsL K F [] [] := isL_nil.2 rfl
theorem IsL.cons {d : D} {ds : List D} {v : V} {vs : List V} (h : Is K F d v) (t : IsL K F ds vs) : IsL K F (d :: ds) (v :: vs) := isL_cons.2 ⟨v, vs, rfl, h, t⟩
theorem IsL.length : ∀ {ds : List D} {vs : List V}, IsL K F ds vs → ds.length = vs.length
  | [], _, h => by rw [isL_nil.1 h]; rfl
  | d :: ds, _, h => by
    obtain ⟨v, r, rfl, _, h2⟩ := isL_cons.1 h
    rw [List.length_cons, List.length_cons, IsL.length h2]
theorem IsL.get : ∀ {ds : List D} {vs : List V} {i : Nat} {d : D}, IsL K F ds vs → ds[i]? = some d → ∃ v, vs[i]? = some v ∧ Is K F d v
  | [], _, _, _, _, e => by simp at e
  | d :: ds, _, 0, _, h, e => by
    obtain ⟨v, r, rfl, h1, h2⟩ := isL_cons.1 h
    simp at e
    subst e
    exact ⟨v, rfl, h1⟩
  | d :: ds, _, i + 1, _, h, e => by
    obtain ⟨v, r, rfl, h1, h2⟩ := isL_cons.1 h
    obtain ⟨u, hu, hi⟩ := IsL.get h2 (by simpa using e)
    exact ⟨u, by simpa using hu, hi⟩
theorem IsL.set : ∀ {ds : List D} {vs : List V} {d : D} {v : V} (i : Nat), IsL K F ds vs → Is K F d v → IsL K F (ds.set i d) (vs.set i v)
  | [], _, _, _, i, h, _ => by rw [isL_nil.1 h]; exact IsL.nil
  | d :: ds, _, _, _, 0, h, hn => by
    obtain ⟨v, r, rfl, h1, h2⟩ := isL_cons.1 h
    exact IsL.cons hn h2
  | d :: ds, _, _, _, i + 1, h, hn => by
    obtain ⟨v, r, rfl, h1, h2⟩ := isL_cons.1 h
    exact IsL.cons h1 (IsL.set i h2 hn)
end
/-! ### the store of cells -/
inductive MO where
  | lst (ds : List D)
  | ins (C : Addr) (fs : List Str) (ds : List D)
  | dct (ks : List Key) (ds : List D)
abbrev Store := Addr → Option MO
def mup (M : Store) (a : Addr) (m : MO) : Store := fun b => if b = a then some m else M b
theorem mup_same {M : Store} {a : Addr} {m : MO} : mup M a m a = some m := by unfold mup; rw [if_pos rfl]
theorem mup_ne {M : Store} {a b : Addr} {m : MO} (h : b ≠ a) : mup M a m b = M b := by unfold mup; rw [if_neg h]
def RepM (K : PySem.W.Frag) (F : Hp) : MO → HO → Prop
  | .lst ds, o => ∃ vs, o = .lst vs ∧ IsL K F ds vs
  | .ins C fs ds, o => ∃ dx vs, o = .ins C dx (fs.zip vs) ∧ fs.length = ds.length ∧ IsL K F ds vs
  | .dct ks ds, o => ∃ vs, o = .dK (ks.zip vs) ∧ ks.length = ds.length ∧ IsL K F ds vs
theorem RepM.mono {K : PySem.W.Frag} {F F' : Hp} (e : Same F F') : ∀ {m : MO} {o : HO}, RepM K F m o → RepM K F' m o
  | .lst ds, _, ⟨vs, e1, h⟩ => ⟨vs, e1, h.mono e⟩
  | .ins C fs ds, _, ⟨dx, vs, e1, l, h⟩ => ⟨dx, vs, e1, l, h.mono e⟩
  | .dct ks ds, _, ⟨vs, e1, l, h⟩ => ⟨vs, e1, l, h.mono e⟩
/-- the frozen heap lies in the heap (a dict may be locked) -/
def Sub (F H : Hp) : Prop := ∀ a o, F a = some o → H a = some o ∨ ∃ kvs ob, o = .dK kvs ∧ H a = some (.frz ob o)
structure Ok (K : PySem.W.Frag) (F : Hp) (M : Store) (H : Hp) : Prop where
  sub : Sub F H
  mem : ∀ a m, M a = some m → F a = none ∧ ∃ o, H a = some o ∧ RepM K F m o
structure Stp (F : Hp) (M : Store) (H : Hp) (F' : Hp) (M' : Store) (H' : Hp) : Prop where
  ext : Same F F'
  new : ∀ a o, F' a = some o → F a = some o ∨ H a = none ∨ M a ≠ none
  keep : ∀ a o, H a = some o → M a = none → H' a = some o
  dom : ∀ a, M a = none → H a ≠ none → M' a = none
  there : ∀ a, H a ≠ none → H' a ≠ none
section
variable {K : PySem.W.Frag} {F F1 F2 F' H H1 H2 H' : Hp} {M M1 M2 M' : Store}
theorem Stp.refl : Stp F M H F M H := ⟨Same.refl F, fun _ _ h => .inl h, fun _ _ h _ => h, fun _ h _ => h, fun _ h => h⟩
theorem Ok.lst (ok : Ok K F M H) {a : Addr} {vs : List V} (h : F a = some (.lst vs)) : H a = some (.lst vs) := by
  rcases ok.sub a _ h with e | ⟨_, _, e, _⟩
  · exact e
  · cases e
theorem Ok.ins (ok : Ok K F M H) {a C dx : Addr} {fs : List (Str × V)} (h : F a = some (.ins C dx fs)) : H a = some (.ins C dx fs) := by
  rcases ok.sub a _ h with e | ⟨_, _, e, _⟩
  · exact e
  · cases e
theorem Ok.fresh (ok : Ok K F M H) {p : Addr} (h : H p = none) : F p = none ∧ M p = none := by
  constructor
  · cases e : F p with
    | none => rfl
    | some o =>
      rcases ok.sub p o e with q | ⟨_, _, _, q⟩
      · rw [h] at q; cases q
      · rw [h] at q; cases q
  · cases e : M p with
    | none => rfl
    | some m =>
      obtain ⟨_, o, q, _⟩ := ok.mem p m e
      rw [h] at q; cases q
theorem same_new {p : Addr} {o : HO} (h : F p = none) : Same F (upd F p o) := fun b x e => by
  rw [upd_ne (ne_of_none e h)]; exact e
/-- a new frozen object -/
theorem Ok.new (ok : Ok K F M H) {p : Addr} {o : HO} (h : H p = none) : Ok K (upd F p o) M (upd H p o) ∧ Stp F M H (upd F p o) M (upd H p o) := by
  obtain ⟨hF, hM⟩ := ok.fresh h
  refine ⟨⟨fun a u e => ?_, fun a m e => ?_⟩, ⟨same_new hF, fun a u e => ?_, fun a u e _ => ?_, fun _ m _ => m, fun a n => ?_⟩⟩
  · by_cases q : a = p
    · subst q; rw [upd_same] at e ⊢; exact .inl e
    · rw [upd_ne q] at e ⊢; exact ok.sub a u e
  · have q : a ≠ p := fun z => by rw [z, hM] at e; cases e
    obtain ⟨h1, u, h2, h3⟩ := ok.mem a m e
    exact ⟨by rw [upd_ne q]; exact h1, u, by rw [upd_ne q]; exact h2, h3.mono (same_new hF)⟩
  · by_cases q : a = p
    · subst q; exact .inr (.inl h)
    · rw [upd_ne q] at e; exact .inl e
  · rw [upd_ne (ne_of_none e h)]; exact e
  · by_cases q : a = p
    · subst q; exact absurd h n
    · rw [upd_ne q]; exact n
/-- a new cell -/
theorem Ok.cell (ok : Ok K F M H) {p : Addr} {o : HO} {m : MO} (h : H p = none) (r : RepM K F m o) : Ok K F (mup M p m) (upd H p o) ∧ Stp F M H F (mup M p m) (upd H p o) := by
  obtain ⟨hF, hM⟩ := ok.fresh h
  refine ⟨⟨fun a u e => ?_, fun a n e => ?_⟩, ⟨Same.refl F, fun a u e => .inl e, fun a u e _ => ?_, fun a q n => ?_, fun a n => ?_⟩⟩
  · have q : a ≠ p := fun z => by rw [z, hF] at e; cases e
    rw [upd_ne q]; exact ok.sub a u e
  · by_cases q : a = p
    · subst q; rw [mup_same] at e; cases e
      exact ⟨hF, o, upd_same, r⟩
    · rw [mup_ne q] at e
      obtain ⟨h1, u, h2, h3⟩ := ok.mem a n e
      exact ⟨h1, u, by rw [upd_ne q]; exact h2, h3⟩
  · rw [upd_ne (ne_of_none e h)]; exact e
  · have z : a ≠ p := fun z => n (by rw [z]; exact h)
    rw [mup_ne z]; exact q
  · by_cases q : a = p
    · subst q; exact absurd h n
    · rw [upd_ne q]; exact n
/-- a cell written -/
theorem Ok.write (ok : Ok K F M H) {p : Addr} {o : HO} {m m0 : MO} (h : M p = some m0) (r : RepM K F m o) : Ok K F (mup M p m) (upd H p o) ∧ Stp F M H F (mup M p m) (upd H p o) := by
  obtain ⟨hF, o0, hH, _⟩ := ok.mem p m0 h
  refine ⟨⟨fun a u e => ?_, fun a n e => ?_⟩, ⟨Same.refl F, fun a u e => .inl e, fun a u e q => ?_, fun a q n => ?_, fun a n => ?_⟩⟩
  · have q : a ≠ p := fun z => by rw [z, hF] at e; cases e
    rw [upd_ne q]; exact ok.sub a u e
  · by_cases q : a = p
    · subst q; rw [mup_same] at e; cases e
      exact ⟨hF, o, upd_same, r⟩
    · rw [mup_ne q] at e
      obtain ⟨h1, u, h2, h3⟩ := ok.mem a n e
      exact ⟨h1, u, by rw [upd_ne q]; exact h2, h3⟩
  · have z : a ≠ p := fun z => by rw [z, h] at q; cases q
    rw [upd_ne z]; exact e
  · have z : a ≠ p := fun z => by rw [z, h] at q; cases q
    rw [mup_ne z]; exact q
  · by_cases q : a = p
    · subst q; rw [upd_same]; simp
    · rw [upd_ne q]; exact n
end
/-! ### slots -/
abbrev DS := List (Option D)
def IsS (K : PySem.W.Frag) (F : Hp) (Δ : DS) (σ : L2.St) : Prop := Δ.length = σ.length ∧ ∀ (i : Nat) d, Δ[i]? = some (some d) → ∃ v, σ[i]? = some (some v) ∧ Is K F d v
theorem IsS.set {K : PySem.W.Frag} {F : Hp} {Δ : DS} {σ : L2.St} (h : IsS K F Δ σ) {d : D} {v : V} (i : Nat) (r : Is K F d v) : IsS K F (Δ.set i (some d)) (σ.set i (some v)) := by
  refine ⟨by rw [List.length_set, List.length_set]; exact h.1, fun j e q => ?_⟩
  by_cases z : j = i
  · subst z
    have hj : j < Δ.length := by
      by_cases hj : j < Δ.length
      · exact hj
      · rw [List.getElem?_eq_none (by rw [List.length_set]; omega)] at q; cases q
    rw [List.getElem?_set_self hj] at q
    cases q
    exact ⟨v, List.getElem?_set_self (by rw [← h.1]; exact hj), r⟩
  · rw [List.getElem?_set_ne (Ne.symm z)] at q ⊢
    exact h.2 j e q
/-! ### the judgements -/
def Sem (X : Cx) (e : Expr) : TE := fun σ H Q => ∀ pins s, Inv X pins σ H s → wpAny (model X.prog X.w) X.A (eval e X.env) (EP X pins σ Q) X.xe s
section
variable {X : Cx} {e : Expr} {es : List Expr} {st : Stmt} {sts : List Stmt} {tg : Expr} {σ : L2.St} {H : Hp}
end
abbrev DK := D → Store → Prop
def Post (K : PySem.W.Frag) (F : Hp) (M : Store) (H : Hp) (k : DK) (Q : VK) : Prop := ∀ d M' F' H' v, k d M' → Stp F M H F' M' H' → Ok K F' M' H' → Is K F' d v → Q v H'
def EvD (X : Cx) (e : Expr) (Δ : DS) (M : Store) (k : DK) : Prop := ∀ F H σ (Q : VK), IsS X.K F Δ σ → Ok X.K F M H → Post X.K F M H k Q → Sem X e σ H Q
abbrev AK := List D → Store → Prop
end DL
end
section
set_option Elab.async false
set_option linter.all false
set_option maxRecDepth 100000
namespace DL
open PySem L2
section
variable {X : Cx} {a b e : Expr} {es rest : List Expr} {Δ : DS} {M : Store} {k : DK} {kb : BK} {pos : Pos}
/-! ### tests -/
theorem IsL.isEmpty {K : PySem.W.Frag} {F : Hp} {ds : List D} {vs : List V} (h : IsL K F ds vs) : ds.isEmpty = vs.isEmpty := by
  have l := h.length
  cases ds <;> cases vs <;> simp at l ⊢
/-! ### argument lists, displays -/
/-- a fresh list: nobody else knows it -/
def PostL (K : PySem.W.Frag) (F : Hp) (M : Store) (H : Hp) (k : AK) (Q : VK) : Prop := ∀ ds M' F' H' q vs, k ds M' → Stp F M H F' M' H' → Ok K F' M' H' → F' q = none → M' q = none → H q = none → H' q = some (.lst vs) → IsL K F' ds vs → Q (.ref q) H'
def EvL (X : Cx) (e : Expr) (Δ : DS) (M : Store) (k : AK) : Prop := ∀ F H σ (Q : VK), IsS X.K F Δ σ → Ok X.K F M H → PostL X.K F M H k Q → Sem X e σ H Q
theorem EvL.cell (h : EvL X e Δ M fun ds M' => ∀ p, M' p = none → k (.cell p) (mup M' p (.lst ds))) : EvD X e Δ M k := fun F H σ Q hs ok post => h F H σ Q hs ok fun ds M' F' H' q vs hk st ok' f m n hq i => by
  refine post (.cell q) (mup M' q (.lst ds)) F' H' (.ref q) (hk q m) ⟨st.ext, st.new, st.keep, fun x e z => ?_, st.there⟩ ⟨ok'.sub, fun x m' e => ?_⟩ (is_cell.2 rfl)
  · have z' : x ≠ q := fun w => z (by rw [w]; exact n)
    rw [mup_ne z']; exact st.dom x e z
  · by_cases z : x = q
    · subst z; rw [mup_same] at e; cases e; exact ⟨f, _, hq, vs, rfl, i⟩
    · rw [mup_ne z] at e; exact ok'.mem x m' e
/-! ### items and slices -/
/-! ### built-ins by name -/
end
end DL
end
section
set_option Elab.async false
set_option linter.all false
set_option maxRecDepth 100000
namespace DL
open PySem L2
section
variable {X : Cx} {a b e e2 o : Expr} {es rest : List Expr} {Δ : DS} {M : Store} {k : DK} {kb : BK} {ka : AK} {p pos apos : Pos} {x : Str}
/-! ### cells: append, pop, x[i] = v -/
theorem Post.cell {K : PySem.W.Frag} {F : Hp} {H : Hp} {Q : VK} {d : D} {v : V} (p : Post K F M H k Q) (ok : Ok K F M H) {q : Addr} {m : MO} (hm : M q = some m) {ds : List D} {vs : List V} (i : IsL K F ds vs) (h : k d (mup M q (.lst ds))) (iv : Is K F d v) : Q v (upd H q (.lst vs)) :=
  let w := ok.write (m := .lst ds) (o := .lst vs) hm ⟨vs, rfl, i⟩
  p d _ F _ v h w.2 w.1 iv
/-! ### dicts -/
/-! ### iterables -/
variable {tg : Expr}
variable {elts : List Expr} {kk : Nat} {tpos : Pos}
end
end DL
end
section
set_option Elab.async false
set_option linter.all false
set_option maxRecDepth 100000
namespace DL
open PySem L2 PyProof.Rows
section
variable {P : Program} {w : World} {K : PySem.W.Frag} {mg : Str → Option Value} {base : Heap}
end
section
variable {X : Cx} {Δ : DS} {M : Store} {k : DK} {pos : Pos} {x : Str}
end
/-! ### new instances, frozen at once -/
section
variable {X : Cx} {e : Expr} {es : List Expr} {Δ : DS} {M : Store} {k : DK} {p pos : Pos} {x : Str} {C : Addr} {n : Nat} {sp : SpD} {dv : List D} {kws : List Keyword} {kn : List Str} {gD : List D → List D → List D}
end
/-! ### tests of the head -/
section
open PySem.W He He5
variable {K : Frag}
def tNe (x : PySem.Str) (K : Frag) : Bool := decide (findIn K (.ref (ga K x)) "__ne__" = some (some (.builtin "object.__ne__")))
/-- a default that is a tuple of the written part without items -/
def tTup0 (a : Frag → Addr) (K : Frag) : Bool := match K.lookup (a K) with
  | some ⟨.type c, none, .seq its _, _⟩ => decide (c = "tuple") && its.isEmpty
  | _ => false
end
end DL
end
section
set_option Elab.async false
set_option linter.all false
set_option maxRecDepth 100000
set_option maxHeartbeats 4000000
/-! sets of ints and texts: set(xs), sorted of it -/
namespace DSet
open PySem PySem.Spec PyProof.Rows L2
instance memKey (c : Key) : (cs : List Key) → Decidable (c ∈ cs)
  | [] => .isFalse (fun h => nomatch h)
  | d :: cs => if h : c = d then .isTrue (h ▸ List.mem_cons_self) else
    match memKey c cs with
    | .isTrue q => .isTrue (List.mem_cons_of_mem _ q)
    | .isFalse q => .isFalse (fun z => (List.mem_cons.mp z).elim h q)
section
variable {P : Program} {w : World} {h h' : Heap} {a : Addr} {S : Key → Bool} {n : Nat}
end
section
variable {P : Program} {w : World} {A : Around} {E : Value → Shared → Prop} {s : Shared} {a : Addr} {S : Key → Bool} {n : Nat}
end
end DSet
end
section
set_option Elab.async false
set_option linter.all false
set_option maxRecDepth 100000
/-! DP: programs of our own over data; draws are free -/
namespace DL
open PySem L2
section
variable {α β : Type} {b : Bool}
end
/-! ### names of classes and of the urn -/
mutual
def rn (ρ : Nat → Addr) : D → D
  | .non => .non | .bl b => .bl b | .int i => .int i | .str x => .str x | .ty n => .ty n
  | .tup ds => .tup (rnL ρ ds) | .lst ds => .lst (rnL ρ ds) | .frl ds => .frl (rnL ρ ds)
  | .dct ks ds => .dct ks (rnL ρ ds) | .ins C fs ds => .ins (ρ C) fs (rnL ρ ds) | .cell a => .cell (ρ a)
  | .exc C fs ds => .exc (ρ C) fs (rnL ρ ds)
def rnL (ρ : Nat → Addr) : List D → List D
  | [] => []
  | d :: ds => rn ρ d :: rnL ρ ds
end
section
variable {ρ : Nat → Addr}
theorem rnL_map : ∀ ds : List D, rnL ρ ds = ds.map (rn ρ)
  | [] => by unfold rnL; rfl
  | d :: ds => by unfold rnL; rw [rnL_map ds]; rfl
theorem rnL_len (ds : List D) : (rnL ρ ds).length = ds.length := by rw [rnL_map, List.length_map]
end
def rnM (ρ : Nat → Addr) : MO → MO
  | .lst ds => .lst (rnL ρ ds) | .ins C fs ds => .ins (ρ C) fs (rnL ρ ds) | .dct ks ds => .dct ks (rnL ρ ds)
/-! ### slots -/
inductive Sl where
  | e | v (d : D) | o (m : MO) | w (d : D)
/-- a view: an owned list is read -/
def Vw (ρ : Nat → Addr) (b : Bool) (M : Store) (d dr : D) : Prop := dr = rn ρ d ∨ ∃ q ds, dr = .cell q ∧ d = .lst ds ∧ M q = some (.lst (rnL ρ ds)) ∧ (b = true → q ≠ ρ 0)
structure Rel (ρ : Nat → Addr) (an : Addr) (b : Bool) (M0 : Store) (Δ : List Sl) (Δr : DS) (M : Store) : Prop where
  len : Δ.length = Δr.length
  v : ∀ (i : Nat) (d : D), Δ[i]? = some (Sl.v d) → Δr[i]? = some (some (rn ρ d))
  o : ∀ (i : Nat) (m : MO), Δ[i]? = some (Sl.o m) → ∃ q, Δr[i]? = some (some (D.cell q)) ∧ M q = some (rnM ρ m) ∧ M0 q = none ∧ (b = true → q ≠ ρ 0) ∧ (∀ C fs ds, m = .ins C fs ds → q = an)
  inj : ∀ (i j : Nat) (m m' : MO) (q : Addr), i ≠ j → Δ[i]? = some (Sl.o m) → Δ[j]? = some (Sl.o m') → Δr[i]? = some (some (D.cell q)) → Δr[j]? ≠ some (some (D.cell q))
  w : ∀ (i : Nat) (d : D), Δ[i]? = some (Sl.w d) → ∃ dr, Δr[i]? = some (some dr) ∧ Vw ρ b M0 d dr
section
variable {γ : Nat → Addr} {b : Bool} {u : Addr × Addr} {M0 M M' M2 : Store} {Δ : List Sl} {Δr : DS} {n n' : Nat}
end
/-! ### judgements -/
section
variable {γ : Nat → Addr} {X : Cx} {a e e2 : Expr} {es : List Expr} {pos p : Pos} {x : Str}
/-! ### leaves -/
/-! ### one, two operands -/
variable {c : Expr}
end
end DL
end
section
set_option Elab.async false
set_option linter.all false
set_option maxRecDepth 100000
namespace DL
open PySem L2 PyProof.Rows
/-! ### sorting -/
section
variable {γ : Nat → Addr} {X : Cx} {a c e e2 tg : Expr} {es rest : List Expr} {pos p : Pos} {x : Str} {op : CmpOp} {s t : SE}
/-! ### built-ins -/
/-! ### calls -/
/-- arguments; those with true are only looked at -/
def VwL (ρ : Nat → Addr) (b : Bool) (M : Store) : List Bool → List D → List D → Prop
  | [], ds, drs => drs = rnL ρ ds
  | true :: fl, d :: ds, dr :: drs => Vw ρ b M d dr ∧ VwL ρ b M fl ds drs
  | false :: fl, d :: ds, dr :: drs => dr = rn ρ d ∧ VwL ρ b M fl ds drs
  | _ :: _, _, _ => False
theorem VwL.len {ρ : Nat → Addr} {b : Bool} {M : Store} : ∀ {fl : List Bool} {ds drs : List D}, VwL ρ b M fl ds drs → drs.length = ds.length
  | [], ds, drs, h => by unfold VwL at h; rw [h, rnL_len]
  | true :: fl, d :: ds, dr :: drs, h => by unfold VwL at h; rw [List.length_cons, List.length_cons, VwL.len h.2]
  | false :: fl, d :: ds, dr :: drs, h => by unfold VwL at h; rw [List.length_cons, List.length_cons, VwL.len h.2]
  | true :: _, [], _, h => by unfold VwL at h; exact h.elim
  | false :: _, [], _, h => by unfold VwL at h; exact h.elim
  | true :: _, _ :: _, [], h => by unfold VwL at h; exact h.elim
  | false :: _, _ :: _, [], h => by unfold VwL at h; exact h.elim
theorem VwL.of {ρ : Nat → Addr} {b : Bool} {M : Store} : ∀ {fl : List Bool} {ds : List D}, fl.length ≤ ds.length → VwL ρ b M fl ds (rnL ρ ds)
  | [], ds, _ => by unfold VwL; rfl
  | true :: fl, d :: ds, h => by unfold rnL VwL; exact ⟨.inl rfl, VwL.of (by simpa using h)⟩
  | false :: fl, d :: ds, h => by unfold rnL VwL; exact ⟨rfl, VwL.of (by simpa using h)⟩
  | _ :: _, [], h => by simp at h
/-! x == y, the first a view -/
end
end DL
end
section
set_option Elab.async false
set_option linter.all false
set_option maxRecDepth 100000
/-! DL: static methods; tuples of the module's top -/
namespace DL
open PySem L2
/-- C.m is a staticmethod: its record at p, its def at g -/
structure SMet (K : PySem.W.Frag) (C : Addr) (mc : Value) (m : Str) (p g : Addr) : Prop where
  at_ : PySem.W.findCls K (.ref C) mc m = some (.get (.builtin "staticmethod.__get__") (.ref p) .none (.ref C))
  rc : ∃ rest, PySem.W.recIn K p "staticmethod" = some (.ref g :: rest)
section
variable {X : Cx} {pins : List (Addr × Obj)} {σ : L2.St} {H : Hp} {s : Shared} {C q g : Addr} {mc : Value} {m : Str} {A : Around} {E : Value → Shared → Prop}
end
section
variable {X : Cx} {k : Nat} {C q g : Addr} {fd : FuncData} {ps : List Str} {mc : Value} {sp : Sp} {E : XK} {m : Str} {e o : Expr} {es : List Expr} {ta : TE} {t : TA} {pos apos : Pos} {dvs : List V} {ds : List Value} {pl : PySem.Sem Bool}
end
section
variable {X : Cx} {e o : Expr} {es : List Expr} {Δ : DS} {M : Store} {k : DK} {p pos apos : Pos} {x m : Str} {C : Addr} {pl : PySem.Sem Bool}
end
end DL
end
section
set_option Elab.async false
set_option linter.all false
set_option maxRecDepth 100000
set_option maxHeartbeats 4000000
/-! sets of tuples of texts and ints -/
namespace DSet
open PySem PySem.Spec PyProof.Rows L2
/-- the tuple at b has just these keys -/
abbrev TK2 (P : Program) (w : World) (h : Heap) (k : List Key) (b : Addr) : Prop := IsTupleKey (mixKind P w) h k b
abbrev hx2 (P : Program) (w : World) (k : List Key) : Int := tupleKeyHash (mixKind P w) k
section
variable {P : Program} {w : World} {A : Around} {E : Value → Shared → Prop} {s : Shared}
/-- rows of the table: hash and tuple -/
def rw2 (P : Program) (w : World) (L : List (Addr × List Key)) : List (Int × Value) := L.map fun p => (hx2 P w p.2, Value.ref p.1)
/-- the set at a has just the tuples of L -/
structure ST2 (P : Program) (w : World) (h : Heap) (a : Addr) (L : List (Addr × List Key)) (es : Array (Int × Value)) (ep : Nat) (t : SetTable) : Prop where
  at_ : ∃ ob, h.get? a = some ob ∧ ob.ExactSet ∧ ob.data = .set es ep t
  row : es.toList = rw2 P w L
  tb : TabOk t (L.map fun p => hx2 P w p.2)
  dis : (L.map (·.2)).Nodup
  tu : ∀ p ∈ L, TK2 P w h p.2 p.1
  ld : w.params.followText "set-order" = true ∨ t.led = true
  rm : L.length * 5 < t.mask * 3
  lt : L.length < 64
variable {a : Addr} {L : List (Addr × List Key)} {es : Array (Int × Value)} {ep : Nat} {t : SetTable}
end
end DSet
end
section
set_option Elab.async false
set_option linter.all false
set_option maxRecDepth 100000
/-! the head: static methods, constant tuples, what is neither list nor tuple -/
namespace DL
open PySem PySem.W PySem.Calls PyProof.Rows L2 He He5
/-- a staticmethod's def -/
def sA (x m : PySem.Str) (K : Frag) : Addr := wf K (ga K x) "staticmethod" m
def tSta (x m : PySem.Str) (K : Frag) : Bool := readsIn K (ga K x) (.type "type") && wrapB K (ga K x) "staticmethod" "staticmethod.__get__" m
/-! what the head leaves, by numbers of places -/
def asR (n : Nat) : List Addr := mainGlobals :: cStatics :: (List.range n).reverse
def obsR (n : Nat) (fa : List (Frag → Bool)) (fn : List DefA) (g : Addr → Option Obj) : He.AlD := obsF fa fn (frG g (asR n))
def hookR (n : Nat) (fa : List (Frag → Bool)) (fn : List DefA) : PySem.W.Hook where
  α := He.AlD
  obs := fun s => obsR n fa fn s.heap.get?
  val := fun _ => valF fn
  says := fun _ h => ∃ K : Frag, K.In h ∧ SaysF fa fn K
  of := fun _ _ e => ⟨_, frG_in, e⟩
  keeps := fun _ _ _ ⟨K, hK, c⟩ k => ⟨K, Frag.In.keeps hK k, c⟩
theorem obsR_eq {n : Nat} {fa : List (Frag → Bool)} {fn : List DefA} {g : Addr → Option Obj} {s : Shared} (h : ∀ a, g a = s.heap.get? a) : obsR n fa fn g = (hookR n fa fn).obs s := by
  have e : g = s.heap.get? := funext h
  rw [e] <;> rfl
/-! constant tuples -/
end DL
end
section
set_option Elab.async false
set_option linter.all false
set_option maxRecDepth 100000
/-! the head: classes of exceptions -/
namespace DL
open PySem PySem.W PySem.Calls PyProof.Rows L2 He He5
def bmVE : List Value := [.type "ValueError", .type "Exception", .type "BaseException", .type "object"]
def bmLE : List Value := [.type "LookupError", .type "Exception", .type "BaseException", .type "object"]
def excAny (K : Frag) (C : Addr) : Bool := excIn K C bmVE "ValueError.__new__" || excIn K C bmLE "LookupError.__new__"
def tExcK (x : PySem.Str) (K : Frag) : Bool := excAny K (ga K x) && (keepIn K (.ref (ga K x)) && (decide (subIn K (.ref (ga K x)) (.type "BaseException") = some true) && (decide (typeIn K (.ref (ga K x)) = some (.type "type")) && decide (exmOne K (.ref (ga K x)) (.ref (ga K x)) = some true))))
def tExcC (x : PySem.Str) (K : Frag) : Bool := decide (findIn K (.ref (ga K x)) "__getattribute__" = some (some (.builtin "BaseException.__getattribute__"))) && (decide (findIn K (.ref (ga K x)) "__getattr__" = some none) && (decide (subIn K (.ref (ga K x)) (.type "BaseException") = some true) && (hasDictIn K (ga K x) && tTyX x K)))
where tTyX (x : PySem.Str) (K : Frag) : Bool := decide (findIn K (.ref (ga K x)) "__class__" = some (some (.builtin "object.__class__"))) && (decide (specialIn K (.builtin "object.__class__") "__get__" = some (some (.builtin "getset_descriptor.__get__"))) && (decide (takesIn K (.builtin "object.__class__") = some true) && decide (mroIn K (ga K x) (.type "object") = some true)))
def tKitX (x : PySem.Str) (t : String) (b : Bool) (K : Frag) : Bool := decide (kitOne K (.ref (ga K x)) (.type t) = some b)
end DL
end
section
set_option Elab.async false
set_option linter.all false
set_option maxRecDepth 100000
/-! the head: classes of exceptions side by side -/
namespace DL
open PySem PySem.W PySem.Calls PyProof.Rows L2 He He5
def tKitXo (x y : PySem.Str) (b : Bool) (K : Frag) : Bool := decide (kitOne K (.ref (ga K x)) (.ref (ga K y)) = some b)
def tExA (x y z : PySem.Str) (K : Frag) : Bool := decide (exmAny K (.ref (ga K x)) [.ref (ga K y), .ref (ga K z)] = some true)
end DL
end
section
set_option Elab.async false
set_option linter.all false
set_option maxRecDepth 100000
namespace Q03
open PySem L2 DL Pk Pg0
def top (i : Nat) : Stmt := PySem.Challenge.pw_deepcuts_k03_forests_as_texts.main.body.getD i (.Pass ⟨0, 0, 0, 0⟩)
abbrev s_is_name : Stmt := top 8
abbrev s_nodes_of : Stmt := top 10
abbrev s_trees_of : Stmt := top 11
abbrev s_text_of : Stmt := top 12
abbrev s_rows_in : Stmt := top 13
abbrev s_Forest___init__ : Stmt := inClass (top 14) 0
abbrev s_Forest_of : Stmt := inClass (top 14) 1
abbrev s_Forest_trees : Stmt := inClass (top 14) 2
abbrev s_Forest_text : Stmt := inClass (top 14) 3
abbrev s_Forest_depth : Stmt := inClass (top 14) 5
abbrev s_Forest___len__ : Stmt := inClass (top 14) 6
abbrev s_Forest_check : Stmt := inClass (top 14) 7
abbrev s_Forest___getitem__ : Stmt := inClass (top 14) 8
abbrev s_Forest___add__ : Stmt := inClass (top 14) 15
abbrev s_Forest___eq__ : Stmt := inClass (top 14) 16
abbrev s__law_cells : Stmt := top 18
abbrev s__law_of : Stmt := top 19
abbrev s__law_same : Stmt := top 20
abbrev s__law_mixed : Stmt := top 21
abbrev s__law_tags : Stmt := top 22
abbrev s__law_rows : Stmt := top 23
abbrev s__law_trees : Stmt := top 24
abbrev s__law_flat : Stmt := top 25
abbrev s__law_heard : Stmt := top 26
abbrev s__law_grown : Stmt := top 27
abbrev s__law_read : Stmt := top 28
abbrev s__law_by_hand_right : Stmt := top 29
abbrev s__law_right : Stmt := top 30
abbrev s_law : Stmt := top 31
abbrev s__law_take : Stmt := top 17
abbrev s__law_box : Stmt := top 16
section
variable {P : Program} {w : World} {K : PySem.W.Frag} {mg : Str → Option Value} {base : Heap} {f : Addr} {fd : FuncData} {dvs : List V}
set_option maxHeartbeats 4000000
end
end Q03
end
section
set_option Elab.async false
set_option linter.all false
set_option maxRecDepth 100000
set_option maxHeartbeats 0
namespace Q03
open PySem PySem.W PySem.Calls PyProof.Rows L2 DL He He5 Pk Pg0
def tTyC (x : PySem.Str) (K : Frag) : Bool := decide (findIn K (.ref (ga K x)) "__class__" = some (some (.builtin "object.__class__"))) && (decide (specialIn K (.builtin "object.__class__") "__get__" = some (some (.builtin "getset_descriptor.__get__"))) && (decide (takesIn K (.builtin "object.__class__") = some true) && decide (mroIn K (ga K x) (.type "object") = some true)))
def tTup0 (p : Frag → Addr) (K : Frag) : Bool := match K.lookup (p K) with
  | some ⟨c, none, .seq its _, _⟩ => decide (c = .type "tuple") && its.toList.isEmpty
  | _ => false
def tNe (x : PySem.Str) (K : Frag) : Bool := decide (findIn K (.ref (ga K x)) "__ne__" = some (some (.builtin "object.__ne__")))
def tKitC (x y : PySem.Str) (b : Bool) (K : Frag) : Bool := decide (kitOne K (.ref (ga K y)) (.ref (ga K x)) = some b)
def dF (x : PySem.Str) (st : Stmt) : DefA := ⟨gA x, x, x, defArgs st, defBody st, defScope st, [], []⟩
def fn : List DefA := [dF "is_name" s_is_name,
  dF "nodes_of" s_nodes_of,
  dF "trees_of" s_trees_of,
  dF "text_of" s_text_of,
  dF "rows_in" s_rows_in,
  dF "_law_box" s__law_box,
  dF "_law_take" s__law_take,
  dF "_law_cells" s__law_cells,
  dF "_law_of" s__law_of,
  dF "_law_same" s__law_same,
  dF "_law_mixed" s__law_mixed,
  dF "_law_tags" s__law_tags,
  dF "_law_rows" s__law_rows,
  dF "_law_trees" s__law_trees,
  dF "_law_flat" s__law_flat,
  dF "_law_heard" s__law_heard,
  dF "_law_grown" s__law_grown,
  dF "_law_read" s__law_read,
  dF "_law_by_hand_right" s__law_by_hand_right,
  dF "_law_right" s__law_right,
  dF "law" s_law,
  ⟨mA "Forest" "__init__", "__init__", "Forest.__init__", defArgs s_Forest___init__, defBody s_Forest___init__, defScope s_Forest___init__, [.adr (dflAt ("Forest", some "__init__") 0)], []⟩,
  ⟨sA "Forest" "of", "of", "Forest.of", defArgs s_Forest_of, defBody s_Forest_of, defScope s_Forest_of, [], []⟩,
  ⟨pA "Forest" "trees", "trees", "Forest.trees", defArgs s_Forest_trees, defBody s_Forest_trees, defScope s_Forest_trees, [], []⟩,
  ⟨pA "Forest" "text", "text", "Forest.text", defArgs s_Forest_text, defBody s_Forest_text, defScope s_Forest_text, [], []⟩,
  ⟨pA "Forest" "depth", "depth", "Forest.depth", defArgs s_Forest_depth, defBody s_Forest_depth, defScope s_Forest_depth, [], []⟩,
  ⟨mA "Forest" "__len__", "__len__", "Forest.__len__", defArgs s_Forest___len__, defBody s_Forest___len__, defScope s_Forest___len__, [], []⟩,
  ⟨mA "Forest" "check", "check", "Forest.check", defArgs s_Forest_check, defBody s_Forest_check, defScope s_Forest_check, [], []⟩,
  ⟨mA "Forest" "__getitem__", "__getitem__", "Forest.__getitem__", defArgs s_Forest___getitem__, defBody s_Forest___getitem__, defScope s_Forest___getitem__, [], []⟩,
  ⟨mA "Forest" "__add__", "__add__", "Forest.__add__", defArgs s_Forest___add__, defBody s_Forest___add__, defScope s_Forest___add__, [], []⟩,
  ⟨mA "Forest" "__eq__", "__eq__", "Forest.__eq__", defArgs s_Forest___eq__, defBody s_Forest___eq__, defScope s_Forest___eq__, [], []⟩]
def fa : List (Frag → Bool) := [tFa (.glo "is_name"),
  tFa (.glo "nodes_of"),
  tFa (.glo "trees_of"),
  tFa (.glo "text_of"),
  tFa (.glo "rows_in"),
  tFa (.glo "_law_box"),
  tFa (.glo "_law_take"),
  tFa (.glo "_law_cells"),
  tFa (.glo "_law_of"),
  tFa (.glo "_law_same"),
  tFa (.glo "_law_mixed"),
  tFa (.glo "_law_tags"),
  tFa (.glo "_law_rows"),
  tFa (.glo "_law_trees"),
  tFa (.glo "_law_flat"),
  tFa (.glo "_law_heard"),
  tFa (.glo "_law_grown"),
  tFa (.glo "_law_read"),
  tFa (.glo "_law_by_hand_right"),
  tFa (.glo "_law_right"),
  tFa (.glo "law"),
  tFa (.free "ValueError"),
  tFa (.free "abs"),
  tFa (.free "all"),
  tFa (.free "bool"),
  tFa (.free "enumerate"),
  tFa (.free "int"),
  tFa (.free "isinstance"),
  tFa (.free "len"),
  tFa (.free "list"),
  tFa (.free "max"),
  tFa (.free "range"),
  tFa (.free "str"),
  tFa (.free "tuple"),
  tFa (.free "zip"),
  tFa (.str "LETTERS" "abcdefghijklmnopqrstuvwxyz"),
  tFa (.int "LONGEST" 8),
  tFa (.str "NOTHING" "-"),
  tFa (.glo "Forest"),
  tFa (.cls "Forest"),
  tFa (.mkr "Forest"),
  tSelf "Forest",
  tTyC "Forest",
  tNe "Forest",
  tSta "Forest" "of",
  tProp "Forest" "trees",
  tProp "Forest" "text",
  tProp "Forest" "depth",
  tFa (.meth "Forest" "__len__"),
  tFa (.meth "Forest" "check"),
  tFa (.meth "Forest" "__getitem__"),
  tFa (.meth "Forest" "__add__"),
  tFa (.meth "Forest" "__eq__"),
  tFa (.glo "BadText"),
  tFa (.glo "NoPlace"),
  tFa (.noat "Forest" "own_rows"),
  tExA "BadText" "BadText" "NoPlace",
  tExA "NoPlace" "BadText" "NoPlace",
  tExcC "BadText",
  tKitX "BadText" "ValueError" true,
  tExcK "BadText",
  tKitXo "BadText" "BadText" true,
  tKitC "Forest" "Forest" true,
  tTup0 (dflAt ("Forest", some "__init__") 0)]
abbrev R : PySem.W.OpenRow := PySem.W.OpenLaw.row PySem.Challenge.rw_deepcuts_k03_forests_as_texts
abbrev hk : PySem.W.Hook := hookR 1100 fa fn
def ob (s : PySem.W.SharedT) : He.AlD := obsR 1100 fa fn (HandSHeadRun.getT s)
theorem ob_eq (s : PySem.W.SharedT) : ob s = hk.obs s.abs := obsR_eq (HandSHeadRun.getT_eq s)
def loose_0 : List PySem.Str := ["__name__", "_wall", "NoPlace", "BadText", "LETTERS", "LONGEST", "NOTHING", "is_name", "nodes_of", "trees_of", "text_of", "rows_in", "Forest", "_law_box", "_law_take"]
def loose_1 : List PySem.Str := ["_law_cells", "_law_of", "_law_same", "_law_mixed", "_law_tags", "_law_rows", "_law_trees", "_law_flat", "_law_heard", "_law_grown", "_law_read", "_law_by_hand_right", "_law_right"]
def loose : List PySem.Str := loose_0 ++ loose_1
theorem run (w : World) : HandSHeadRun.RunEq R (PySem.W.view R.prog [31]) hk ob 8000 loose w := by
  intro os
  kernel_rfl
end Q03
end
section
set_option Elab.async false
set_option linter.all false
set_option maxRecDepth 100000
/-! the head: any tests of the written part, and its defs -/
namespace DL
open PySem PySem.W PySem.Calls PyProof.Rows He He5
section
variable {fa : List (Frag → Bool)} {fn : List DefA} {K : Frag}
theorem SaysF.fact (c : SaysF fa fn K) (i : Nat) {f : Frag → Bool} (h : fa[i]? = some f := by rfl) : f K = true := by
  have c1 := (ba (show ((fa.all fun f => f K) && fn.all fun d => d.ok K) = true from congrArg (fun z : He.AlD => z.1) c)).1
  exact List.all_eq_true.mp c1 f (List.mem_of_getElem? h)
theorem SaysF.def_ (c : SaysF fa fn K) (i : Nat) {d : DefA} (h : fn[i]? = some d := by rfl) : ∃ fd, L2.FunD K d.name d.qual d.params d.body d.scope (d.dvs K) (d.kws K) (d.at_ K) fd := by
  have c2 := (ba (show ((fa.all fun f => f K) && fn.all fun d => d.ok K) = true from congrArg (fun z : He.AlD => z.1) c)).2
  have e : fn.map (fun d => fnA K (d.at_ K)) = fn.map DefA.val := congrArg (fun z : He.AlD => z.2) c
  have e2 : (fn.map fun d => fnA K (d.at_ K))[i]? = (fn.map DefA.val)[i]? := by rw [e]
  rw [List.getElem?_map, List.getElem?_map, h] at e2
  exact DefA.funD (Option.some.inj e2) (List.all_eq_true.mp c2 d (List.mem_of_getElem? h))
end
/-! ### addresses -/
/-! ### tests -/
theorem tProp_ok {K : Frag} {x m : PySem.Str} (c : tProp x m K = true) : L2.PropOf K (ga K x) m (ma K (ga K x) m) (pA x m K) := by
  unfold tProp at c
  obtain ⟨c1, c⟩ := ba c
  obtain ⟨c2, c⟩ := ba c
  obtain ⟨c3, c4⟩ := ba c
  refine ⟨of_decide_eq_true c1, of_decide_eq_true c2, of_decide_eq_true c3, ?_⟩
  unfold pA
  split at c4
  · rename_i g r e
    exact ⟨r, by rw [e]⟩
  · cases c4
end DL
end
section
set_option Elab.async false
set_option linter.all false
set_option maxRecDepth 100000
/-! tuples of which the whole object is known (no dict of attributes): dict(t) asks for it -/
namespace DL
open PySem PySem.Spec PyProof.Rows L2
/-- what a new bare tuple is good for -/
def NewT (H : L2.Hp) (xs : List V) (Q : VK) : Prop := ∀ (a : Addr) (ob : Obj), H a = none → ob.dict = none → Q (.ref a) (upd H a (.frz ob (.tup xs)))
section
variable {X : Cx} {pn : List (Addr × Obj)} {σ : L2.St} {H : Hp} {s : Shared} {g : Heap} {xs : List V} {us : List Value} {Q : VK}
theorem ok_bare {a : Addr} {H' : Hp} {arr : Array Value} (e : g.get? a = some { cls := .type "tuple", data := .seq arr }) (r : Vals xs arr.toList) (hz : xs.length ≤ sizeLine) : ObjOk X.prog X.w H' g a (.frz { cls := .type "tuple", data := .seq arr } (.tup xs)) :=
  ⟨e, hz, arr.toList, r, _, e, rfl, 0, rfl⟩
/-- the heap goes on to g, and one tuple is pushed -/
theorem bare_push {t : Nat} (I : Inv X pn σ H s) (k : ∀ b u, s.heap.get? b = some u → g.get? b = some u) (le : s.heap.objs.size ≤ g.objs.size) (r : Vals xs us) (hz : xs.length ≤ sizeLine) (q : NewT H xs Q) :
    EP X pn σ Q (.ref g.objs.size) { s with heap := g.push (tObj us), toks := t } :=
  ⟨.ref g.objs.size, upd H g.objs.size (.frz (tObj us) (.tup xs)), I.laid (fun b u e => Heap.get?_push_of_some _ (k b u e)) le (ok_bare (Heap.get?_push_size _ rfl) (by simpa using r) hz), rfl, q _ _ (I.hok.fresh le) rfl⟩
end
section
variable {X : Cx} {es : List Expr} {pos : Pos} {t : TA}
def tTupB (t : TA) : TE := fun (σ : L2.St) H Q => t σ H fun xs H1 => xs.length ≤ sizeLine ∧ NewT H1 xs Q
theorem pe_tupB {x1} (h : PA X es t) : PE X (.Tuple es x1 pos) (tTupB t) :=
  ⟨fun pn s σ H Q I q => wpAny_Tuple_spliced (thn (h.run pos pn s σ H _ I q) fun us s1 ⟨xs, H1, I1, r, z, nw⟩ => ⟨r.length ▸ z, bare_push (t := s1.toks) I1 (fun _ _ e => e) (Nat.le_refl _) r z nw⟩)⟩
theorem call_tupleB : CallR X (.type "tuple") (fun xs H Q => ∃ p ys, xs = [.ref p] ∧ ((SqL X.K H p ys ∧ NewT H ys Q) ∨ (SqT X.K H p ys ∧ Q (.ref p) H))) := fun pn s σ H xs us Q I r ⟨p, ys, e, h⟩ => by
  subst e
  obtain ⟨u, eu, ru⟩ := vals1 r
  subst eu
  cases ru
  cases h with
  | inl h =>
    obtain ⟨ws, rw', pl, z⟩ := I.list h.1
    have lw := rw'.length
    exact call_tuple_list pl.isList (fun g k => bare_push (us := ws) (t := s.toks) (s := { s with heap := g }) (g := g) (I.kept (t' := s.toks) k) (fun _ _ e => e) (Nat.le_refl _) rw' z h.2) (by simp only [List.size_toArray]; omega)
  | inr h =>
    obtain ⟨ws, rw', pl, z⟩ := I.tuple h.1
    exact call_tuple_same pl ⟨.ref p, H, I, rfl, h.2⟩
def rSlB (K : PySem.W.Frag) : V → Option Int → Option Int → L2.Hp → VK → Prop := fun x lo hi H Q => ∃ a xs, x = .ref a ∧ SqT K H a xs ∧
  if HT.sIx xs.length 0 lo = 0 ∧ HT.sIx xs.length xs.length hi = xs.length then Q (.ref a) H else NewT H (cutV xs lo hi) Q
theorem sl_tupB : SlR X (rSlB X.K) := fun pn s σ H x v vl vu lo hi sl Q I rx hs pl pu ⟨a, xs, ex, sq, q⟩ => by
  subst ex
  cases rx
  obtain ⟨ws, r, ht, hz⟩ := I.tuple sq
  have ln : ws.toArray.size = xs.length := by simpa using r.length.symm
  refine ⟨_, _, PyProof.Rows.slot_tuple_getitem.lookup, ht.typeIs, ?_⟩
  split at q
  · rename_i c
    exact getItem_tuple_whole ht hs pl pu (by rw [ln]; exact c) ⟨.ref a, H, I, rfl, q⟩
  · rename_i c
    refine HT.getItem_tuple_cut ht hs pl pu (by rw [ln]; exact c) ?_ (by rw [ln]; exact hz)
    rw [ln]
    exact bare_push (t := s.toks) I (fun _ _ e => e) (Nat.le_refl _) ((r.drop _).take _) (Nat.le_trans (cutV_length xs lo hi) hz) q
def rCatB (K : PySem.W.Frag) : R2 := fun x y H Q => ∃ a b xs ys, x = .ref a ∧ y = .ref b ∧ SqT K H a xs ∧ SqT K H b ys ∧ xs.length + ys.length ≤ sizeLine ∧
  if xs = [] then Q (.ref b) H else if ys = [] then Q (.ref a) H else NewT H (xs ++ ys) Q
theorem op_catB : OpR X (binaryOp .Add) (rCatB X.K) := fun pn s σ H x y v u Q I rx ry ⟨a, b, xs, ys, ex, ey, sa, sb, z, q⟩ => by
  subst ex ey
  cases rx
  cases ry
  obtain ⟨vs, r1, p1, _⟩ := I.tuple sa
  obtain ⟨ws, r2, p2, _⟩ := I.tuple sb
  have l1 := r1.length
  have l2 := r2.length
  split at q
  · rename_i c
    subst c
    cases r1
    exact cat_tup0 p1 p2 ⟨.ref b, H, I, rfl, q⟩
  · rename_i c
    refine HT.cat_tup p1 p2 (fun e => c (r1.nil_iff.mp e)) (fun e => ?_) (fun e => ?_) (by omega)
    · rw [if_pos (r2.nil_iff.mp e)] at q
      exact ⟨.ref a, H, I, rfl, q⟩
    · rw [if_neg fun e2 => e (r2.nil_iff.mpr e2)] at q
      exact bare_push (t := s.toks) I (fun _ _ e => e) (Nat.le_refl _) (r1.append r2) (by rw [List.length_append]; exact z) q
end
end DL
end
section
set_option Elab.async false
set_option linter.all false
set_option maxRecDepth 100000
/-! enumerate and zip in loops: each pair is bare -/
namespace DL
open PySem PySem.Spec PyProof.Rows L2
/-- as a walk J, but what it yields is another thing -/
def ItB (J : It) (y : Nat → Hp → List V → Prop) : It := ⟨J.go, fun i H v H' => ∃ T ob xs, v = .ref T ∧ H T = none ∧ Obj.dict ob = none ∧ H' = upd H T (.frz ob (.tup xs)) ∧ y i H xs, J.stop⟩
section
variable {P : Program} {w : World} {K : PySem.W.Frag} {tg : Expr} {J : It} {fp : List Addr} {it : Addr} {tn : Nat → Heap → Prop} {y : Nat → Hp → List V → Prop}
theorem turn_bare (T : Turn P w K tg J fp it tn) (item : ∀ (X : Cx), X.prog = P → X.w = w → X.K = K → X.calm = true → ∀ (i : Nat) (pn : List (Addr × Obj)) (s : Shared) (σ : L2.St) (H : Hp) (E : Value → Shared → Prop), Inv X pn σ H s → tn i s.heap → J.go i H →
    wpAny (model P w) X.A (pyNext (.ref it)) (fun r s1 => r = some (.ref s.heap.objs.size) ∧
      wpAny (model P w) X.A (letOwnedTupleGo tg (.ref it) (.ref s.heap.objs.size)) (fun _ s2 => ∃ h' t us xs, s2 = { s with heap := h', toks := t } ∧ h'.get? s.heap.objs.size = some (tObj us) ∧ Vals xs us ∧ xs.length ≤ sizeLine ∧ y i H xs ∧
        (∀ c o, c ∉ fp → s.heap.get? c = some o → h'.get? c = some o) ∧ tn (i + 1) h') E s1) E s) : Turn P w K tg (ItB J y) fp it tn where
  mem := T.mem
  obj := T.obj
  keep := T.keep
  self := T.self
  done := T.done
  item := fun X e1 e2 e3 hc i pn s σ H E I fpk tni go => by
    refine thn (item X e1 e2 e3 hc i pn s σ H E I tni go) fun r s1 ⟨er, h1⟩ => ⟨_, er, thn h1 fun _ s2 ⟨h', t, us, xs, es, ho, rv, hz, hy, k, tn'⟩ => ?_⟩
    subst es e1 e2 e3
    have nw := ok_bare (X := X) (H' := upd H s.heap.objs.size (.frz (tObj us) (.tup xs))) ho (by simpa using rv) hz
    refine ⟨.ref s.heap.objs.size, _, I.turnedNew (t' := t) (ch := fp) k fpk (Nat.le_refl _) nw, rfl, ⟨_, tObj us, xs, rfl, I.hok.fresh (Nat.le_refl _), rfl, rfl, hy⟩, tn', fun b hb => ?_⟩
    obtain ⟨o, hob, _⟩ := T.obj i _ tni b hb
    rw [upd_ne (Nat.ne_of_lt (Heap.lt_size hob))]
    exact (fpk b hb).1
end
section
variable {P : Program} {w : World} {K : PySem.W.Frag} {elts : List Expr} {kk : Nat} {tpos : Pos}
abbrev yEn (S : Hp → List V → Prop) (i : Nat) (H : Hp) (xs : List V) : Prop := ∃ x, xs = [.int (i : Nat), x] ∧ ∀ ys, S H ys → ys[i]? = some x
abbrev yZi (S S' : Hp → List V → Prop) (i : Nat) (H : Hp) (xs : List V) : Prop := ∃ x y, xs = [x, y] ∧ (∀ ys, S H ys → ys[i]? = some x) ∧ ∀ ys, S' H ys → ys[i]? = some y
theorem two_le : ∀ x y : V, [x, y].length ≤ sizeLine := fun _ _ => by show 2 ≤ sizeLine; decide
def IteB (K : PySem.W.Frag) (a : Addr) : It := ItB (Ite K a) (yEn fun H => SqL K H a)
theorem turn_enumB (a e it : Addr) : Turn P w K (.Tuple elts kk tpos) (IteB K a) [e, it] e (fun i h => (∃ old, IsEnum h e it ((i : Nat) : Int) old) ∧ h.IsListIter it a i ∧ e ≠ it) :=
  turn_bare (turn_enum a e it) fun X e1 e2 e3 hc i pn s σ H E I ⟨⟨old, en⟩, ln, ne⟩ ⟨xs, x, sq, gx⟩ => by
    subst e1 e2 e3
    obtain ⟨us, rv, pl, _⟩ := I.list sq
    obtain ⟨u, gu, ru⟩ := rv.get gx
    have lt := Heap.lt_size en
    refine wpAny_pyNext_enum_item en ln pl.isList (x := u) (by simpa using gu) ne fun h1 out ln1 ho _ k => ⟨rfl, wpAny_letOwnedTupleGo_enum (s := { s with heap := h1, toks := s.toks + 1 }) out fun h2 en2 sam => ?_⟩
    refine ⟨h2, s.toks + 1, [.int i s.toks, u], [.int (i : Nat), x], rfl, (sam.2 _ (Nat.ne_of_gt lt)).trans ho, .cons ⟨_, rfl⟩ (.cons ru .nil), two_le _ _, ⟨x, rfl, fun ys sy => by rw [I.list_inj sy sq]; exact gx⟩, fun c o nc g => ?_, ⟨u, ?_⟩, ln1.at fun o q => (sam.2 it (Ne.symm ne)).trans q, ne⟩
    · simp only [List.mem_cons, List.not_mem_nil, or_false, not_or] at nc
      exact (sam.2 c nc.1).trans (k c o nc.1 nc.2 g)
    · rw [Int.natCast_succ]; exact en2
def ItzB (K : PySem.W.Frag) (a b : Addr) : It := ItB (Itz K a b) (yZi (fun H => SqL K H a) fun H => SqL K H b)
theorem turn_zipB {a b z TI TO i1 i2 : Addr} (D : ZipApart z TI TO i1 i2 a b) : Turn P w K (.Tuple elts kk tpos) (ItzB K a b) [z, TI, TO, i1, i2] z (fun i h => IsZip h z TI TO .none ∧ IsPair h TI (.ref i1) (.ref i2) ∧ (∃ x y, IsPair h TO x y) ∧ h.IsListIter i1 a i ∧ h.IsListIter i2 b i) :=
  turn_bare (turn_zip D) fun X e1 e2 e3 hc i pn s σ H E I ⟨zz, pI, ⟨_, _, pO⟩, l1, l2⟩ ⟨xs, ys, x, y, sx, sy, gx, gy⟩ => by
    subst e1 e2 e3
    obtain ⟨us, rv, pl, _⟩ := I.list sx
    obtain ⟨ws, rw', pl', _⟩ := I.list sy
    obtain ⟨u, gu, ru⟩ := rv.get gx
    obtain ⟨v, gv, rv'⟩ := rw'.get gy
    have lt := Heap.lt_size zz
    refine wpAny_pyNext_zip_item D zz pI pO l1 l2 pl.isList pl'.isList (x := u) (y := v) (by simpa using gu) (by simpa using gv) fun h1 z1 o1 m1 m2 ho _ k => ⟨rfl, wpAny_letOwnedTupleGo_zip (s := { s with heap := h1 }) z1 fun h2 z2 sam => ?_⟩
    refine ⟨h2, s.toks, [u, v], [x, y], rfl, (sam.2 _ (Nat.ne_of_gt lt)).trans ho, .cons ru (.cons rv' .nil), two_le _ _, ⟨x, y, rfl, fun l q => by rw [I.list_inj q sx]; exact gx, fun l q => by rw [I.list_inj q sy]; exact gy⟩, fun c o nc g => ?_, z2, ?_, ⟨u, v, ?_⟩, ?_, ?_⟩
    · simp only [List.mem_cons, List.not_mem_nil, or_false, not_or] at nc
      exact (sam.2 c nc.1).trans (k c o nc.1 nc.2.2.1 nc.2.2.2.1 nc.2.2.2.2 g)
    · exact (sam.2 _ D.TIz).trans (k _ _ D.TIz D.TITO D.TIi1 D.TIi2 pI)
    · exact (sam.2 _ D.TOz).trans o1
    · exact m1.at fun o q => (sam.2 _ D.i1z).trans q
    · exact m2.at fun o q => (sam.2 _ D.i2z).trans q
def ItzTB (K : PySem.W.Frag) (a b : Addr) : It := ItB (RZ.ItzT K a b) (yZi (fun H => SqT K H a) fun H => SqT K H b)
theorem turn_zipTB {a b z TI TO i1 i2 : Addr} (D : ZipApart z TI TO i1 i2 a b) : Turn P w K (.Tuple elts kk tpos) (ItzTB K a b) [z, TI, TO, i1, i2] z (fun i h => IsZip h z TI TO .none ∧ IsPair h TI (.ref i1) (.ref i2) ∧ (∃ x y, IsPair h TO x y) ∧ h.IsTupleIter i1 a i ∧ h.IsTupleIter i2 b i) :=
  turn_bare (RZ.turn_zipT D) fun X e1 e2 e3 hc i pn s σ H E I ⟨zz, pI, ⟨_, _, pO⟩, l1, l2⟩ ⟨xs, ys, x, y, sx, sy, gx, gy⟩ => by
    subst e1 e2 e3
    obtain ⟨us, rv, pl, _⟩ := I.tuple sx
    obtain ⟨ws, rw', pl', _⟩ := I.tuple sy
    obtain ⟨u, gu, ru⟩ := rv.get gx
    obtain ⟨v, gv, rv'⟩ := rw'.get gy
    have lt := Heap.lt_size zz
    refine RZ.pyNext_zipT_item D zz pI pO l1 l2 pl pl' (x := u) (y := v) (by simpa using gu) (by simpa using gv) fun h1 z1 o1 m1 m2 ho _ k => ⟨rfl, wpAny_letOwnedTupleGo_zip (s := { s with heap := h1 }) z1 fun h2 z2 sam => ?_⟩
    refine ⟨h2, s.toks, [u, v], [x, y], rfl, (sam.2 _ (Nat.ne_of_gt lt)).trans ho, .cons ru (.cons rv' .nil), two_le _ _, ⟨x, y, rfl, fun l q => by rw [I.tuple_inj q sx]; exact gx, fun l q => by rw [I.tuple_inj q sy]; exact gy⟩, fun c o nc g => ?_, z2, ?_, ⟨u, v, ?_⟩, ?_, ?_⟩
    · simp only [List.mem_cons, List.not_mem_nil, or_false, not_or] at nc
      exact (sam.2 c nc.1).trans (k c o nc.1 nc.2.2.1 nc.2.2.2.1 nc.2.2.2.2 g)
    · exact (sam.2 _ D.TIz).trans (k _ _ D.TIz D.TITO D.TIi1 D.TIi2 pI)
    · exact (sam.2 _ D.TOz).trans o1
    · exact m1.at fun o q => (sam.2 _ D.i1z).trans q
    · exact m2.at fun o q => (sam.2 _ D.i2z).trans q
end
section
variable {X : Cx} {e e2 : Expr} {ta : TA} {p pos tpos : Pos} {elts : List Expr} {kk : Nat}
theorem new_fp {pn : List (Addr × Obj)} {σ : L2.St} {H : Hp} {s : Shared} (I : Inv X pn σ H s) {l : List Addr} (h : ∀ c ∈ l, s.heap.objs.size ≤ c) : ∀ c ∈ l, FpOk X pn H c := fun c hc => I.fpOk (h c hc) (I.hok.fresh (h c hc))
def iZipB (K : PySem.W.Frag) (ta : TA) : TI := fun (σ : L2.St) H R => ta σ H fun vs H1 => ∃ a b xs ys, vs = [.ref a, .ref b] ∧ ((SqL K H1 a xs ∧ SqL K H1 b ys ∧ R (ItzB K a b) H1) ∨ (SqT K H1 a xs ∧ SqT K H1 b ys ∧ R (ItzTB K a b) H1))
theorem pi_zipB (hg : Gl X "zip") (hm : X.mg "zip" = none) (ha : PA X [e, e2] ta) (hs : starEach [e, e2] X.env = (false, eval e X.env) :: starEach [e2] X.env := by rfl) (hpl : (backTo pos (starEach [e2] X.env)).any (·.1) = false := by rfl) :
    PI X (.Tuple elts kk tpos) (.Call (.Name "zip" p) [e, e2] [] pos) (iZipB X.K ta) := by
  constructor
  intro pn s σ H R I h
  refine Call_ (ld_blt I hg hm PyProof.Rows.boot_zip (PyProof.Rows.callWith_type1 (thn (ha.run pos pn s σ H _ I h) fun us s1 ⟨vs, H1, I1, r1, q1⟩ => ?_) hs hpl))
  obtain ⟨a, b, xs, ys, ex, q1⟩ := q1
  subst ex
  obtain ⟨x1, x2, eu, r, r'⟩ := vals2 r1
  subst eu
  cases r
  cases r'
  · skip
    have ge : ∀ c ∈ [s1.heap.objs.size + 4, s1.heap.objs.size + 2, s1.heap.objs.size + 3, s1.heap.objs.size, s1.heap.objs.size + 1], s1.heap.objs.size ≤ c := fun c hc => by
      simp only [List.mem_cons, List.not_mem_nil, or_false] at hc
      omega
    rcases q1 with ⟨sx, sy, q⟩ | ⟨sx, sy, q⟩
    · obtain ⟨_, _, p1, _⟩ := I1.list sx
      obtain ⟨_, _, p2, _⟩ := I1.list sy
      refine call_zip_2 p1.isList p2.isList fun g zz pI pO l1 l2 _ k => wpAny_pyIter_zip zz ?_
      have J : Inv X pn σ H1 { s1 with heap := g } := I1.kept (t' := s1.toks) k
      exact ⟨_, _, _, _, H1, rfl, J, turn_zipB (PySem.W.ktu_apart s1.heap.objs.size a b p1.lt p2.lt), ⟨zz, pI, ⟨_, _, pO⟩, l1, l2⟩, new_fp I1 ge, q⟩
    · obtain ⟨_, _, p1, _⟩ := I1.tuple sx
      obtain ⟨_, _, p2, _⟩ := I1.tuple sy
      refine RZ.call_zipT p1 p2 fun g zz pI pO l1 l2 _ k => wpAny_pyIter_zip zz ?_
      have J : Inv X pn σ H1 { s1 with heap := g } := I1.kept (t' := s1.toks) k
      exact ⟨_, _, _, _, H1, rfl, J, turn_zipTB (PySem.W.ktu_apart s1.heap.objs.size a b p1.lt p2.lt), ⟨zz, pI, ⟨_, _, pO⟩, l1, l2⟩, new_fp I1 ge, q⟩
end
end DL
end
section
set_option Elab.async false
set_option linter.all false
set_option maxRecDepth 100000
/-! DL: deep data over the hand layer -/
namespace DL
open PySem L2

section
variable {K : PySem.W.Frag} {F F' H H' : Hp}
theorem is_non {v : V} : Is K F .non v ↔ v = .non := by unfold Is; exact Iff.rfl
theorem is_bl {b : Bool} {v : V} : Is K F (.bl b) v ↔ v = .bl b := by unfold Is; exact Iff.rfl
theorem is_int {i : Int} {v : V} : Is K F (.int i) v ↔ v = .int i := by unfold Is; exact Iff.rfl
theorem is_str {x : Str} {v : V} : Is K F (.str x) v ↔ v = .str x := by unfold Is; exact Iff.rfl
theorem is_ty {x : String} {v : V} : Is K F (.ty x) v ↔ v = .ty x := by unfold Is; exact Iff.rfl
theorem is_tup {ds : List D} {v : V} : Is K F (.tup ds) v ↔ ∃ a vs, v = .ref a ∧ SqU K F a vs ∧ IsL K F ds vs := by unfold Is; exact Iff.rfl
theorem is_lst {ds : List D} {v : V} : Is K F (.lst ds) v ↔ ∃ a vs, v = .ref a ∧ F a = some (.lst vs) ∧ IsL K F ds vs := by unfold Is; exact Iff.rfl
theorem is_frl {ds : List D} {v : V} : Is K F (.frl ds) v ↔ ∃ a vs, v = .ref a ∧ SqL K F a vs ∧ IsL K F ds vs := by unfold Is; exact Iff.rfl
theorem is_dct {ks : List Key} {ds : List D} {v : V} : Is K F (.dct ks ds) v ↔ ∃ a vs od, v = .ref a ∧ F a = some (.frz od (.dK (ks.zip vs))) ∧ ks.length = ds.length ∧ IsL K F ds vs := by unfold Is; exact Iff.rfl
theorem is_ins {C : Addr} {fs : List Str} {ds : List D} {v : V} : Is K F (.ins C fs ds) v ↔ ∃ a dx vs, v = .ref a ∧ F a = some (.ins C dx (fs.zip vs)) ∧ fs.length = ds.length ∧ IsL K F ds vs := by unfold Is; exact Iff.rfl
theorem is_exc {C : Addr} {fs : List Str} {ds : List D} {v : V} : Is K F (.exc C fs ds) v ↔ ∃ a od vs, v = .ref a ∧ F a = some (ExT C od a) ∧ DictF F od (fs.zip vs) ∧ fs.length = ds.length ∧ IsL K F ds vs := by unfold Is; exact Iff.rfl
theorem IsL.app : ∀ {ds es : List D} {vs ws : List V}, IsL K F ds vs → IsL K F es ws → IsL K F (ds ++ es) (vs ++ ws)
  | [], _, _, _, h, h' => by rw [isL_nil.1 h]; exact h'
  | d :: ds, _, _, _, h, h' => by
    obtain ⟨v, r, rfl, h1, h2⟩ := isL_cons.1 h
    exact IsL.cons h1 (IsL.app h2 h')
theorem IsL.get' : ∀ {ds : List D} {vs : List V} {i : Nat} {v : V}, IsL K F ds vs → vs[i]? = some v → ∃ d, ds[i]? = some d ∧ Is K F d v
  | [], _, _, _, h, e => by rw [isL_nil.1 h] at e; simp at e
  | d :: ds, _, 0, _, h, e => by
    obtain ⟨v, r, rfl, h1, h2⟩ := isL_cons.1 h
    simp at e
    subst e
    exact ⟨d, rfl, h1⟩
  | d :: ds, _, i + 1, _, h, e => by
    obtain ⟨v, r, rfl, h1, h2⟩ := isL_cons.1 h
    obtain ⟨u, hu, hi⟩ := IsL.get' h2 (by simpa using e)
    exact ⟨u, by simpa using hu, hi⟩
theorem IsL.drop : ∀ {ds : List D} {vs : List V} (n : Nat), IsL K F ds vs → IsL K F (ds.drop n) (vs.drop n)
  | _, _, 0, h => h
  | [], _, n + 1, h => by rw [isL_nil.1 h]; exact IsL.nil
  | d :: ds, _, n + 1, h => by
    obtain ⟨v, r, rfl, h1, h2⟩ := isL_cons.1 h
    exact IsL.drop n h2
theorem IsL.take : ∀ {ds : List D} {vs : List V} (n : Nat), IsL K F ds vs → IsL K F (ds.take n) (vs.take n)
  | _, _, 0, h => IsL.nil
  | [], _, n + 1, h => by rw [isL_nil.1 h]; exact IsL.nil
  | d :: ds, _, n + 1, h => by
    obtain ⟨v, r, rfl, h1, h2⟩ := isL_cons.1 h
    exact IsL.cons h1 (IsL.take n h2)
theorem IsL.erase : ∀ {ds : List D} {vs : List V} (i : Nat), IsL K F ds vs → IsL K F (ds.eraseIdx i) (vs.eraseIdx i)
  | [], _, i, h => by rw [isL_nil.1 h]; exact IsL.nil
  | d :: ds, _, 0, h => by
    obtain ⟨v, r, rfl, h1, h2⟩ := isL_cons.1 h
    exact h2
  | d :: ds, _, i + 1, h => by
    obtain ⟨v, r, rfl, h1, h2⟩ := isL_cons.1 h
    exact IsL.cons h1 (IsL.erase i h2)
theorem IsL.dropLast : ∀ {ds : List D} {vs : List V}, IsL K F ds vs → IsL K F ds.dropLast vs.dropLast := by
  intro ds vs h
  rw [List.dropLast_eq_take, List.dropLast_eq_take, ← h.length]
  exact h.take _
theorem IsL.rev : ∀ {ds : List D} {vs : List V}, IsL K F ds vs → IsL K F ds.reverse vs.reverse
  | [], _, h => by rw [isL_nil.1 h]; exact IsL.nil
  | d :: ds, _, h => by
    obtain ⟨v, r, rfl, h1, h2⟩ := isL_cons.1 h
    rw [List.reverse_cons, List.reverse_cons]
    exact IsL.app (IsL.rev h2) (IsL.cons h1 IsL.nil)
theorem IsL.rep {ds : List D} {vs : List V} (h : IsL K F ds vs) : ∀ n : Nat, IsL K F (List.replicate n ds).flatten (List.replicate n vs).flatten
  | 0 => IsL.nil
  | n + 1 => by
    rw [List.replicate_succ, List.replicate_succ, List.flatten_cons, List.flatten_cons]
    exact IsL.app h (IsL.rep h n)
theorem IsL.ints : ∀ (ns : List Int) {vs : List V}, IsL K F (ns.map D.int) vs ↔ vs = ns.map V.int
  | [], vs => by rw [List.map_nil, List.map_nil]; exact isL_nil
  | n :: ns, vs => by
    rw [List.map_cons, List.map_cons, isL_cons]
    constructor
    · rintro ⟨v, r, rfl, h1, h2⟩
      rw [is_int.1 h1, (IsL.ints ns).1 h2]
    · rintro rfl
      exact ⟨_, _, rfl, is_int.2 rfl, (IsL.ints ns).2 rfl⟩
theorem IsL.strs : ∀ (ns : List Str) {vs : List V}, IsL K F (ns.map D.str) vs ↔ vs = ns.map V.str
  | [], vs => by rw [List.map_nil, List.map_nil]; exact isL_nil
  | n :: ns, vs => by
    rw [List.map_cons, List.map_cons, isL_cons]
    constructor
    · rintro ⟨v, r, rfl, h1, h2⟩
      rw [is_str.1 h1, (IsL.strs ns).1 h2]
    · rintro rfl
      exact ⟨_, _, rfl, is_str.2 rfl, (IsL.strs ns).2 rfl⟩
theorem IsL.bls : ∀ (ns : List Bool) {vs : List V}, IsL K F (ns.map D.bl) vs ↔ vs = ns.map V.bl
  | [], vs => by rw [List.map_nil, List.map_nil]; exact isL_nil
  | n :: ns, vs => by
    rw [List.map_cons, List.map_cons, isL_cons]
    constructor
    · rintro ⟨v, r, rfl, h1, h2⟩
      rw [is_bl.1 h1, (IsL.bls ns).1 h2]
    · rintro rfl
      exact ⟨_, _, rfl, is_bl.2 rfl, (IsL.bls ns).2 rfl⟩
end
/-! ### the store of cells -/
def mdel (M : Store) (a : Addr) : Store := fun b => if b = a then none else M b
theorem mdel_same {M : Store} {a : Addr} : mdel M a a = none := by unfold mdel; rw [if_pos rfl]
theorem mdel_ne {M : Store} {a b : Addr} (h : b ≠ a) : mdel M a b = M b := by unfold mdel; rw [if_neg h]
theorem mdel_mup {M : Store} {a : Addr} {m : MO} (h : M a = none) : mdel (mup M a m) a = M := by
  funext b; unfold mdel mup
  by_cases e : b = a
  · rw [if_pos e, e, h]
  · rw [if_neg e, if_neg e]
section
variable {K : PySem.W.Frag} {F F1 F2 F' H H1 H2 H' : Hp} {M M1 M2 M' : Store}
theorem Stp.trans (a : Stp F M H F1 M1 H1) (b : Stp F1 M1 H1 F2 M2 H2) : Stp F M H F2 M2 H2 where
  ext := a.ext.trans b.ext
  new := fun x o h => by
    rcases b.new x o h with h1 | h1 | h1
    · exact a.new x o h1
    · refine .inr (.inl ?_)
      cases e : H x with
      | none => rfl
      | some u => exact absurd h1 (a.there x (by rw [e]; simp))
    · refine .inr ?_
      cases e : H x with
      | none => exact .inl rfl
      | some u => exact .inr fun m => h1 (a.dom x m (by rw [e]; simp))
  keep := fun x o h m => b.keep x o (a.keep x o h m) (a.dom x m (by rw [h]; simp))
  dom := fun x m h => b.dom x (a.dom x m h) (a.there x h)
  there := fun x h => b.there x (a.there x h)
theorem Ok.frz (ok : Ok K F M H) {a : Addr} {od : Obj} {u : HO} (h : F a = some (.frz od u)) : H a = some (.frz od u) := by
  rcases ok.sub a _ h with e | ⟨_, ob, e, e2⟩
  · exact e
  · cases e
theorem Ok.rd (ok : Ok K F M H) {a : Addr} {od : Obj} {kvs : List (Key × V)} (h : F a = some (.frz od (.dK kvs))) : Rd H a (.dK kvs) := .inr ⟨od, ok.frz h⟩
theorem Ok.bare (ok : Ok K F M H) {a : Addr} {vs : List V} (h : Bare F a vs) : Bare H a vs := let ⟨ob, hd, e⟩ := h; ⟨ob, hd, ok.frz e⟩
theorem Ok.sqT (ok : Ok K F M H) {a : Addr} {vs : List V} (h : SqU K F a vs) : SqT K H a vs := by
  rcases h with h | ⟨o, _, its, n, h⟩
  · obtain ⟨ob, _, e⟩ := ok.bare h
    exact .inl (.inr ⟨ob, e⟩)
  · exact .inr ⟨o, its, n, h⟩
theorem Ok.sqL (ok : Ok K F M H) {a : Addr} {vs : List V} (h : SqL K F a vs) : SqL K H a vs := by
  rcases h with (h | ⟨o, h⟩) | h
  · rcases ok.sub a _ h with e | ⟨_, _, e, _⟩
    · exact .inl (.inl e)
    · cases e
  · rcases ok.sub a _ h with e | ⟨_, _, e, _⟩
    · exact .inl (.inr ⟨o, e⟩)
    · cases e
  · exact .inr h
/-- a cell dropped -/
theorem Ok.drop (ok : Ok K F M H) (p : Addr) : Ok K F (mdel M p) H ∧ Stp F M H F (mdel M p) H := by
  refine ⟨⟨ok.sub, fun a n e => ?_⟩, ⟨Same.refl F, fun a u e => .inl e, fun a u e q => e, fun a q n => ?_, fun a n => n⟩⟩
  · by_cases q : a = p
    · rw [q, mdel_same] at e; cases e
    · rw [mdel_ne q] at e; exact ok.mem a n e
  · by_cases z : a = p
    · rw [z, mdel_same]
    · rw [mdel_ne z]; exact q
end
/-! ### slots -/
theorem IsS.mono {K : PySem.W.Frag} {F F' : Hp} {Δ : DS} {σ : L2.St} (e : Same F F') (h : IsS K F Δ σ) : IsS K F' Δ σ := ⟨h.1, fun i d q => by
  obtain ⟨v, h1, h2⟩ := h.2 i d q
  exact ⟨v, h1, h2.mono e⟩⟩
/-! ### the judgements -/
def SemT (X : Cx) (e : Expr) : TT := fun σ H Q => ∀ pins s, Inv X pins σ H s → wpAny (model X.prog X.w) X.A (isTrue e X.env (eval e X.env)) (TP X pins σ Q) X.xe s
def SemA (X : Cx) (es : List Expr) : TA := fun σ H Q => ∀ pos pins s, Inv X pins σ H s → wpAny (model X.prog X.w) X.A (spliced (backTo pos (starEach es X.env))) (AP X pins σ Q) X.xe s
def SemS (X : Cx) (st : Stmt) : TS := fun D σ H => ∀ pins s, Inv X pins σ H s → wpAny (model X.prog X.w) X.A (exec st X.env) (SP X pins D) X.xe s
def SemSs (X : Cx) (st : List Stmt) : TS := fun D σ H => ∀ pins s, Inv X pins σ H s → wpAny (model X.prog X.w) X.A (execs st X.env) (SP X pins D) X.xe s
def SemI (X : Cx) (tg e : Expr) : TI := fun σ H R => ∀ pins s, Inv X pins σ H s → wpAny (model X.prog X.w) X.A (eval e X.env) (fun v s1 => wpAny (model X.prog X.w) X.A (pyIter v) (PIE X pins σ tg R) X.xe s1) X.xe s
def SemG (X : Cx) (tg : Expr) : TG := fun v σ H Q => ∀ pins s u, Inv X pins σ H s → RelV v u → wpAny (model X.prog X.w) X.A (assign tg X.env u) (fun _ s' => ∃ σ' H', Inv X pins σ' H' s' ∧ Q σ' H') X.xe s
section
variable {X : Cx} {e : Expr} {es : List Expr} {st : Stmt} {sts : List Stmt} {tg : Expr} {σ : L2.St} {H : Hp}
theorem pe_sem : PE X e (Sem X e) := ⟨fun pins s _ _ _ I h => h pins s I⟩
theorem pt_sem : PT X e (SemT X e) := ⟨fun pins s _ _ _ I h => h pins s I⟩
theorem pa_sem : PA X es (SemA X es) := ⟨fun pos pins s _ _ _ I h => h pos pins s I⟩
theorem ps_sem : PS X st (SemS X st) := ⟨fun pins s _ _ _ I h => h pins s I⟩
theorem pss_sem : PSs X sts (SemSs X sts) := ⟨fun pins s _ _ _ I h => h pins s I⟩
theorem pi_sem : PI X tg e (SemI X tg e) := ⟨fun pins s _ _ _ I h => h pins s I⟩
theorem pg_sem : PG X tg (SemG X tg) := ⟨fun pins s _ _ _ u _ I r h => h pins s u I r⟩
theorem sem_of {t : TE} {Q : VK} (h : PE X e t) (q : t σ H Q) : Sem X e σ H Q := fun pins s I => h.run pins s σ H Q I q
theorem semT_of {t : TT} {Q : Bool → Hp → Prop} (h : PT X e t) (q : t σ H Q) : SemT X e σ H Q := fun pins s I => h.run pins s σ H Q I q
theorem semA_of {t : TA} {Q : List V → Hp → Prop} (h : PA X es t) (q : t σ H Q) : SemA X es σ H Q := fun pos pins s I => h.run pos pins s σ H Q I q
theorem semS_of {t : TS} {D : Ends} (h : PS X st t) (q : t D σ H) : SemS X st D σ H := fun pins s I => h.run pins s σ H D I q
theorem semSs_of {t : TS} {D : Ends} (h : PSs X sts t) (q : t D σ H) : SemSs X sts D σ H := fun pins s I => h.run pins s σ H D I q
theorem semI_of {t : TI} {R : It → Hp → Prop} (h : PI X tg e t) (q : t σ H R) : SemI X tg e σ H R := fun pins s I => h.run pins s σ H R I q
theorem semG_of {t : TG} {v : V} {Q : L2.St → Hp → Prop} (h : PG X tg t) (q : t v σ H Q) : SemG X tg v σ H Q := fun pins s u I r => h.run pins s σ H v u Q I r q
end
theorem Post.step {K : PySem.W.Frag} {F F1 H H1 : Hp} {M M1 : Store} {k : DK} {Q : VK} (p : Post K F M H k Q) (s : Stp F M H F1 M1 H1) : Post K F1 M1 H1 k Q := fun d M' F' H' v a b c e => p d M' F' H' v a (s.trans b) c e
abbrev BK := Bool → Store → Prop
def PostT (K : PySem.W.Frag) (F : Hp) (M : Store) (H : Hp) (k : BK) (Q : Bool → Hp → Prop) : Prop := ∀ b M' F' H', k b M' → Stp F M H F' M' H' → Ok K F' M' H' → Q b H'
def TeD (X : Cx) (e : Expr) (Δ : DS) (M : Store) (k : BK) : Prop := ∀ F H σ (Q : Bool → Hp → Prop), IsS X.K F Δ σ → Ok X.K F M H → PostT X.K F M H k Q → SemT X e σ H Q
def PostA (K : PySem.W.Frag) (F : Hp) (M : Store) (H : Hp) (k : AK) (Q : List V → Hp → Prop) : Prop := ∀ ds M' F' H' vs, k ds M' → Stp F M H F' M' H' → Ok K F' M' H' → IsL K F' ds vs → Q vs H'
def EvA (X : Cx) (es : List Expr) (Δ : DS) (M : Store) (k : AK) : Prop := ∀ F H σ (Q : List V → Hp → Prop), IsS X.K F Δ σ → Ok X.K F M H → PostA X.K F M H k Q → SemA X es σ H Q
structure KS where
  nx : DS → Store → Prop
  rt : DK
  bk : DS → Store → Prop := fun _ _ => False
  ct : DS → Store → Prop := fun _ _ => False
structure PostS (K : PySem.W.Frag) (F : Hp) (M : Store) (H : Hp) (k : KS) (Q : Ends) : Prop where
  nx : ∀ Δ' M' F' H' σ', k.nx Δ' M' → Stp F M H F' M' H' → Ok K F' M' H' → IsS K F' Δ' σ' → Q.nx σ' H'
  rt : Post K F M H k.rt Q.rt
  bk : ∀ Δ' M' F' H' σ', k.bk Δ' M' → Stp F M H F' M' H' → Ok K F' M' H' → IsS K F' Δ' σ' → Q.bk σ' H'
  ct : ∀ Δ' M' F' H' σ', k.ct Δ' M' → Stp F M H F' M' H' → Ok K F' M' H' → IsS K F' Δ' σ' → Q.ct σ' H'
def StD (X : Cx) (st : Stmt) (Δ : DS) (M : Store) (k : KS) : Prop := ∀ F H σ (Q : Ends), IsS X.K F Δ σ → Ok X.K F M H → PostS X.K F M H k Q → SemS X st Q σ H
def SsD (X : Cx) (st : List Stmt) (Δ : DS) (M : Store) (k : KS) : Prop := ∀ F H σ (Q : Ends), IsS X.K F Δ σ → Ok X.K F M H → PostS X.K F M H k Q → SemSs X st Q σ H
theorem PostT.step {K : PySem.W.Frag} {F F1 H H1 : Hp} {M M1 : Store} {k : BK} {Q : Bool → Hp → Prop} (p : PostT K F M H k Q) (s : Stp F M H F1 M1 H1) : PostT K F1 M1 H1 k Q := fun d M' F' H' a b c => p d M' F' H' a (s.trans b) c
theorem PostA.step {K : PySem.W.Frag} {F F1 H H1 : Hp} {M M1 : Store} {k : AK} {Q : List V → Hp → Prop} (p : PostA K F M H k Q) (s : Stp F M H F1 M1 H1) : PostA K F1 M1 H1 k Q := fun d M' F' H' v a b c e => p d M' F' H' v a (s.trans b) c e
theorem PostS.step {K : PySem.W.Frag} {F F1 H H1 : Hp} {M M1 : Store} {k : KS} {Q : Ends} (p : PostS K F M H k Q) (s : Stp F M H F1 M1 H1) : PostS K F1 M1 H1 k Q :=
  ⟨fun d M' F' H' v a b c e => p.nx d M' F' H' v a (s.trans b) c e, p.rt.step s, fun d M' F' H' v a b c e => p.bk d M' F' H' v a (s.trans b) c e, fun d M' F' H' v a b c e => p.ct d M' F' H' v a (s.trans b) c e⟩
end DL
end
section
set_option Elab.async false
set_option linter.all false
set_option maxRecDepth 100000
namespace DL
open PySem L2
section
variable {X : Cx} {a b e : Expr} {es : List Expr} {Δ : DS} {M : Store} {k : DK} {pos : Pos}
/-! ### leaves -/
theorem ev_var {i : Nat} {x : Str} {d : D} (hN : X.N[i]? = some x) (hv : Vis X.env.scope x) (hd : (x == ("__debug__" : Str)) = false) (hcd : (x == ("__classdict__" : Str)) = false)
    (hi : Δ[i]? = some (some d)) (h : k d M) : EvD X (.Name x pos) Δ M k := fun F H σ Q hs ok post => by
  obtain ⟨v, h1, h2⟩ := hs.2 i d hi
  exact sem_of (pe_var hN hv hd hcd) ⟨v, h1, post d M F H v h Stp.refl ok h2⟩
theorem ev_c {v : V} {d : D} (hp : PE X e (tC v)) (hd : ∀ F, Is X.K F d v) (h : k d M) : EvD X e Δ M k := fun F H σ Q hs ok post =>
  sem_of hp (post d M F H v h Stp.refl ok (hd F))
theorem ev_int {i : Int} {j : Nat} (h : k (.int i) M) : EvD X (.Constant (.int i) j pos) Δ M k := ev_c pe_int (fun _ => is_int.2 rfl) h
theorem ev_bl {i : Bool} {j : Nat} (h : k (.bl i) M) : EvD X (.Constant (.bool i) j pos) Δ M k := ev_c pe_bl (fun _ => is_bl.2 rfl) h
theorem ev_non {j : Nat} (h : k .non M) : EvD X (.Constant .none j pos) Δ M k := ev_c pe_non (fun _ => is_non.2 rfl) h
theorem ev_str {x : Str} {j : Nat} (h : k (.str x) M) : EvD X (.Constant (.str x) j pos) Δ M k := ev_c pe_str (fun _ => is_str.2 rfl) h
theorem EvD.mono {k' : DK} (h : EvD X e Δ M k) (hk : ∀ d M', k d M' → k' d M') : EvD X e Δ M k' := fun F H σ Q hs ok post => h F H σ Q hs ok fun d M' F' H' v q => post d M' F' H' v (hk d M' q)
/-! ### two operands -/
def P2 (X : Cx) (r : R2) (d1 d2 : D) (M : Store) (k : DK) : Prop := ∀ F H x y Q, Ok X.K F M H → Is X.K F d1 x → Is X.K F d2 y → Post X.K F M H k Q → r x y H Q
def P1 (X : Cx) (r : V → Hp → VK → Prop) (d1 : D) (M : Store) (k : DK) : Prop := ∀ F H x Q, Ok X.K F M H → Is X.K F d1 x → Post X.K F M H k Q → r x H Q
theorem two {R : D → D → Store → Prop} (h : EvD X a Δ M fun d1 M1 => EvD X b Δ M1 fun d2 M2 => R d1 d2 M2) {F H : Hp} {σ : L2.St} (hs : IsS X.K F Δ σ) (ok : Ok X.K F M H) {T : V → V → Hp → Prop}
    (hT : ∀ d1 d2 M' F' H' x y, R d1 d2 M' → Stp F M H F' M' H' → Ok X.K F' M' H' → Is X.K F' d1 x → Is X.K F' d2 y → T x y H') : Sem X a σ H fun x H1 => Sem X b σ H1 fun y H2 => T x y H2 :=
  h F H σ _ hs ok fun d1 M1 F1 H1 x k1 st1 ok1 is1 => k1 F1 H1 σ _ (hs.mono st1.ext) ok1 fun d2 M2 F2 H2 y k2 st2 ok2 is2 =>
    hT d1 d2 M2 F2 H2 x y k2 (st1.trans st2) ok2 (is1.mono st2.ext) is2
theorem ev_op2 {op : Operator} {r : R2} (ho : OpR X (binaryOp op) r) (h : EvD X a Δ M fun d1 M1 => EvD X b Δ M1 fun d2 M2 => P2 X r d1 d2 M2 k) : EvD X (.BinOp a op b pos) Δ M k := fun F H σ Q hs ok post =>
  sem_of (pe_op ho pe_sem pe_sem) (two h hs ok fun d1 d2 M' F' H' x y p st ok' i1 i2 => p F' H' x y Q ok' i1 i2 (post.step st))
theorem ev_un {op : UnaryOp} {r : V → Hp → VK → Prop} (ho : UnR X (unaryOp op) r) (h : EvD X a Δ M fun d1 M1 => P1 X r d1 M1 k) : EvD X (.UnaryOp op a pos) Δ M k := fun F H σ Q hs ok post =>
  sem_of (pe_un ho pe_sem) (h F H σ _ hs ok fun d1 M1 F1 H1 x p st ok' i1 => p F1 H1 x Q ok' i1 (post.step st))
theorem Post.here {K : PySem.W.Frag} {F : Hp} {M : Store} {H : Hp} {Q : VK} {d : D} {v : V} (p : Post K F M H k Q) (ok : Ok K F M H) (h : k d M) (i : Is K F d v) : Q v H := p d M F H v h Stp.refl ok i
theorem Post.fresh {K : PySem.W.Frag} {F : Hp} {M : Store} {H : Hp} {Q : VK} {d : D} {o : HO} (p : Post K F M H k Q) (ok : Ok K F M H) (h : k d M) {q : Addr} (hq : H q = none) (i : Is K (upd F q o) d (.ref q)) : Q (.ref q) (upd H q o) :=
  p d M _ _ _ h (ok.new hq).2 (ok.new hq).1 i
theorem IsL.up {K : PySem.W.Frag} {F : Hp} {ds : List D} {vs : List V} {q : Addr} {o : HO} (h : IsL K F ds vs) (hq : F q = none) : IsL K (upd F q o) ds vs := h.mono (same_new hq)
theorem lst_new {K : PySem.W.Frag} {F : Hp} {ds : List D} {vs : List V} {q : Addr} (h : IsL K F ds vs) (hq : F q = none) : Is K (upd F q (.lst vs)) (.lst ds) (.ref q) := is_lst.2 ⟨q, vs, rfl, upd_same, h.up hq⟩
theorem tup_new {K : PySem.W.Frag} {F : Hp} {ds : List D} {vs : List V} {q : Addr} {ob : Obj} (hd : ob.dict = none) (h : IsL K F ds vs) (hq : F q = none) : Is K (upd F q (.frz ob (.tup vs))) (.tup ds) (.ref q) := is_tup.2 ⟨q, vs, rfl, .inl ⟨ob, hd, upd_same⟩, h.up hq⟩
/-! + -/
def AddP (d1 d2 : D) (M : Store) (k : DK) : Prop := match d1, d2 with
  | .int i, .int j => k (.int (i + j)) M
  | .str x, .str y => x.length + y.length ≤ sizeLine ∧ k (.str (x ++ y)) M
  | .lst xs, .lst ys => xs.length + ys.length ≤ sizeLine ∧ k (.lst (xs ++ ys)) M
  | .tup xs, .tup ys => xs.length + ys.length ≤ sizeLine ∧ k (.tup (xs ++ ys)) M
  | _, _ => False
def rAddA (K : PySem.W.Frag) : R2 := fun x y H Q => (rI0 fun i j => V.int (i + j)) x y H Q ∨ (∃ i j, x = .str i ∧ y = .str j ∧ i.length + j.length ≤ sizeLine ∧ Q (.str (i ++ j)) H) ∨ rCat x y H Q ∨ rCatB K x y H Q
theorem op_addA : OpR X (binaryOp .Add) (rAddA X.K) := op_add.or (op_add_str.or (op_cat.or op_catB))
theorem p2_add {d1 d2 : D} (h : AddP d1 d2 M k) : P2 X (rAddA X.K) d1 d2 M k := fun F H x y Q ok i1 i2 post => by
  unfold AddP at h
  split at h
  · exact .inl ⟨_, _, is_int.1 i1, is_int.1 i2, post.here ok h (is_int.2 rfl)⟩
  · exact .inr (.inl ⟨_, _, is_str.1 i1, is_str.1 i2, h.1, post.here ok h.2 (is_str.2 rfl)⟩)
  · obtain ⟨p, vs, e1, h1, l1⟩ := is_lst.1 i1
    obtain ⟨q, ws, e2, h2, l2⟩ := is_lst.1 i2
    refine .inr (.inr (.inl ⟨p, q, vs, ws, e1, e2, ok.lst h1, ok.lst h2, by rw [← l1.length, ← l2.length]; exact h.1, fun r hr => post.fresh ok h.2 hr (lst_new (l1.app l2) (ok.fresh hr).1)⟩))
  · rename_i xs ys
    obtain ⟨p, vs, e1, h1, l1⟩ := is_tup.1 i1
    obtain ⟨q, ws, e2, h2, l2⟩ := is_tup.1 i2
    refine .inr (.inr (.inr ⟨p, q, vs, ws, e1, e2, ok.sqT h1, ok.sqT h2, by rw [← l1.length, ← l2.length]; exact h.1, ?_⟩))
    split
    · rename_i e
      subst e
      have z : xs = [] := List.length_eq_zero_iff.mp l1.length
      subst z
      exact post.here ok h.2 (is_tup.2 ⟨q, ws, rfl, h2, l2⟩)
    · split
      · rename_i e
        subst e
        have z : ys = [] := List.length_eq_zero_iff.mp l2.length
        subst z
        refine post.here ok h.2 (is_tup.2 ⟨p, vs, rfl, h1, ?_⟩)
        rw [List.append_nil]
        exact l1
      · exact fun r ob hr hd => post.fresh ok h.2 hr (tup_new hd (l1.app l2) (ok.fresh hr).1)
  · exact h.elim
theorem ev_add (h : EvD X a Δ M fun d1 M1 => EvD X b Δ M1 fun d2 M2 => AddP d1 d2 M2 k) : EvD X (.BinOp a .Add b pos) Δ M k :=
  ev_op2 op_addA (h.mono fun _ _ q => q.mono fun _ _ p => p2_add p)
/-! ints -/
def IntP (C : Int → Int → Prop) (g : Int → Int → D) (d1 d2 : D) (M : Store) (k : DK) : Prop := match d1, d2 with
  | .int i, .int j => C i j ∧ k (g i j) M
  | _, _ => False
theorem p2_int {C : Int → Int → Prop} {g : Int → Int → V} {gd : Int → Int → D} (hg : ∀ F i j, Is X.K F (gd i j) (g i j)) {d1 d2 : D} (h : IntP C gd d1 d2 M k) : P2 X (rI C g) d1 d2 M k := fun F H x y Q ok i1 i2 post => by
  unfold IntP at h
  split at h
  · exact ⟨_, _, is_int.1 i1, is_int.1 i2, h.1, post.here ok h.2 (hg _ _ _)⟩
  · exact h.elim
def NumP (g : Int → Int → D) (d1 d2 : D) (M : Store) (k : DK) : Prop := match d1, d2 with
  | .int i, .int j => k (g i j) M
  | _, _ => False
theorem p2_num {g : Int → Int → V} {gd : Int → Int → D} (hg : ∀ F i j, Is X.K F (gd i j) (g i j)) {d1 d2 : D} (h : NumP gd d1 d2 M k) : P2 X (rI0 g) d1 d2 M k := fun F H x y Q ok i1 i2 post => by
  unfold NumP at h
  split at h
  · exact ⟨_, _, is_int.1 i1, is_int.1 i2, post.here ok h (hg _ _ _)⟩
  · exact h.elim
theorem ev_sub (h : EvD X a Δ M fun d1 M1 => EvD X b Δ M1 fun d2 M2 => NumP (fun i j => .int (i - j)) d1 d2 M2 k) : EvD X (.BinOp a .Sub b pos) Δ M k :=
  ev_op2 op_sub (h.mono fun _ _ q => q.mono fun _ _ p => p2_num (fun _ _ _ => is_int.2 rfl) p)
theorem op_mulI : OpR X (binaryOp .Mult) (rI IntMulOk fun i j => .int (i * j)) := opI fun _ _ _ _ _ _ _ hc q => PyProof.Rows.mul_int q hc
def MulP (d1 d2 : D) (M : Store) (k : DK) : Prop := match d1, d2 with
  | .int i, .int j => IntMulOk i j ∧ k (.int (i * j)) M
  | .lst xs, .int j => (-(2 ^ 63) ≤ j ∧ j < 2 ^ 63 ∧ xs.length * j.toNat ≤ sizeLine) ∧ k (.lst (List.replicate j.toNat xs).flatten) M
  | _, _ => False
theorem p2_mul {d1 d2 : D} (h : MulP d1 d2 M k) : P2 X (fun x y H Q => rI IntMulOk (fun i j => .int (i * j)) x y H Q ∨ rRep x y H Q) d1 d2 M k := fun F H x y Q ok i1 i2 post => by
  unfold MulP at h
  split at h
  · exact .inl ⟨_, _, is_int.1 i1, is_int.1 i2, h.1, post.here ok h.2 (is_int.2 rfl)⟩
  · obtain ⟨p, vs, e1, h1, l1⟩ := is_lst.1 i1
    exact .inr ⟨p, _, vs, e1, is_int.1 i2, ok.lst h1, h.1.1, h.1.2.1, by rw [← l1.length]; exact h.1.2.2, fun r hr => post.fresh ok h.2 hr (lst_new (l1.rep _) (ok.fresh hr).1)⟩
  · exact h.elim
theorem ev_mul (h : EvD X a Δ M fun d1 M1 => EvD X b Δ M1 fun d2 M2 => MulP d1 d2 M2 k) : EvD X (.BinOp a .Mult b pos) Δ M k :=
  ev_op2 (op_mulI.or op_rep) (h.mono fun _ _ q => q.mono fun _ _ p => p2_mul p)
theorem ev_mod (h : EvD X a Δ M fun d1 M1 => EvD X b Δ M1 fun d2 M2 => IntP (fun _ j => 0 < j) (fun i j => .int (i % j)) d1 d2 M2 k) : EvD X (.BinOp a .Mod b pos) Δ M k :=
  ev_op2 op_mod (h.mono fun _ _ q => q.mono fun _ _ p => p2_int (fun _ _ _ => is_int.2 rfl) p)
theorem ev_fdiv (h : EvD X a Δ M fun d1 M1 => EvD X b Δ M1 fun d2 M2 => IntP CDivW (fun i j => .int (i / j)) d1 d2 M2 k) : EvD X (.BinOp a .FloorDiv b pos) Δ M k :=
  ev_op2 op_fdivW (h.mono fun _ _ q => q.mono fun _ _ p => p2_int (fun _ _ _ => is_int.2 rfl) p)
theorem ev_pow (h : EvD X a Δ M fun d1 M1 => EvD X b Δ M1 fun d2 M2 => IntP CPow (fun i j => .int (i ^ j.toNat)) d1 d2 M2 k) : EvD X (.BinOp a .Pow b pos) Δ M k :=
  ev_op2 op_pow (h.mono fun _ _ q => q.mono fun _ _ p => p2_int (fun _ _ _ => is_int.2 rfl) p)
def NegP (d1 : D) (M : Store) (k : DK) : Prop := match d1 with
  | .int i => k (.int (-i)) M
  | _ => False
theorem ev_neg (h : EvD X a Δ M fun d1 M1 => NegP d1 M1 k) : EvD X (.UnaryOp .USub a pos) Δ M k :=
  ev_un un_neg (h.mono fun d M1 p F H x Q ok i1 post => by
    unfold NegP at p
    split at p
    · exact ⟨_, is_int.1 i1, post.here ok p (is_int.2 rfl)⟩
    · exact p.elim)
/-! ### comparisons -/
def CmpP (g : Int → Int → Bool) (gs : List Nat → List Nat → Bool) (d1 d2 : D) (M : Store) (k : DK) : Prop := match d1, d2 with
  | .int i, .int j => k (.bl (g i j)) M
  | .str i, .str j => k (.bl (gs i.cps.toList j.cps.toList)) M
  | _, _ => False
theorem p2_cmp {g : Int → Int → Bool} {gs : List Nat → List Nat → Bool} {d1 d2 : D} (h : CmpP g gs d1 d2 M k) : P2 X (fun x y H Q => rI0 (fun i j => .bl (g i j)) x y H Q ∨ ∃ i j, x = .str i ∧ y = .str j ∧ Q (.bl (gs i.cps.toList j.cps.toList)) H) d1 d2 M k := fun F H x y Q ok i1 i2 post => by
  unfold CmpP at h
  split at h
  · exact .inl ⟨_, _, is_int.1 i1, is_int.1 i2, post.here ok h (is_bl.2 rfl)⟩
  · exact .inr ⟨_, _, is_str.1 i1, is_str.1 i2, post.here ok h (is_bl.2 rfl)⟩
  · exact h.elim
abbrev LtP := CmpP (fun i j => decide (i < j)) (fun i j => decide (i < j))
abbrev LeP := CmpP (fun i j => decide (i ≤ j)) (fun i j => !decide (j < i))
abbrev GtP := CmpP (fun i j => decide (j < i)) (fun i j => decide (j < i))
abbrev GeP := CmpP (fun i j => decide (j ≤ i)) (fun i j => !decide (i < j))
/-- what a comparison asks -/
def CoP (op : CmpOp) : D → D → Store → DK → Prop := match op with
  | .Lt => LtP | .LtE => LeP | .Gt => GtP | .GtE => GeP
  | _ => fun _ _ _ _ => False
def rCo (op : CmpOp) : R2 := match op with
  | .Lt => fun x y H Q => rI0 (fun i j => .bl (decide (i < j))) x y H Q ∨ ∃ i j, x = .str i ∧ y = .str j ∧ Q (.bl (decide (i.cps.toList < j.cps.toList))) H
  | .LtE => fun x y H Q => rI0 (fun i j => .bl (decide (i ≤ j))) x y H Q ∨ ∃ i j, x = .str i ∧ y = .str j ∧ Q (.bl (!decide (j.cps.toList < i.cps.toList))) H
  | .Gt => fun x y H Q => rI0 (fun i j => .bl (decide (j < i))) x y H Q ∨ ∃ i j, x = .str i ∧ y = .str j ∧ Q (.bl (decide (j.cps.toList < i.cps.toList))) H
  | .GtE => fun x y H Q => rI0 (fun i j => .bl (decide (j ≤ i))) x y H Q ∨ ∃ i j, x = .str i ∧ y = .str j ∧ Q (.bl (!decide (i.cps.toList < j.cps.toList))) H
  | _ => fun _ _ _ _ => False
theorem op_co {op : CmpOp} : OpR X (compareOp op) (rCo op) := by
  cases op with
  | Lt => exact op_lt.or op_lt_str
  | LtE => exact op_le.or op_le_str
  | Gt => exact op_gt.or op_gt_str
  | GtE => exact op_ge.or op_ge_str
  | _ => exact fun _ _ _ _ _ _ _ _ _ _ _ _ h => h.elim
theorem p2_co {op : CmpOp} {d1 d2 : D} (h : CoP op d1 d2 M k) : P2 X (rCo op) d1 d2 M k := by
  cases op with
  | Lt => exact p2_cmp (show LtP d1 d2 M k from h)
  | LtE => exact p2_cmp (show LeP d1 d2 M k from h)
  | Gt => exact p2_cmp (show GtP d1 d2 M k from h)
  | GtE => exact p2_cmp (show GeP d1 d2 M k from h)
  | _ => exact h.elim
/-! == and != of data -/
mutual
def toPy : D → Option PyData
  | .non => some .none
  | .bl b => some (.bool b)
  | .int i => some (.int i)
  | .str x => some (.str x)
  | .lst ds => (toPyL ds).map .list
  | .frl ds => (toPyL ds).map .list
  | .tup ds => (toPyL ds).map .tuple
  | _ => none
def toPyL : List D → Option (List PyData)
  | [] => some []
  | d :: ds => (toPy d).bind fun p => (toPyL ds).map fun ps => p :: ps
end
section
variable {K : PySem.W.Frag} {F H : Hp}
mutual
theorem dp_of (ok : Ok K F M H) : ∀ (d : D) (p : PyData) (v : V), toPy d = some p → Is K F d v → Dp K H v p
  | .non, p, v, e, i => by
    unfold toPy at e; cases e; rw [is_non.1 i]; exact .non
  | .bl _, p, v, e, i => by
    unfold toPy at e; cases e; rw [is_bl.1 i]; exact .bl _
  | .int _, p, v, e, i => by
    unfold toPy at e; cases e; rw [is_int.1 i]; exact .int _
  | .str _, p, v, e, i => by
    unfold toPy at e; cases e; rw [is_str.1 i]; exact .str _
  | .lst ds, p, v, e, i => by
    unfold toPy at e
    obtain ⟨ps, h1, h2⟩ := Option.map_eq_some_iff.mp e
    subst h2
    obtain ⟨a, vs, rfl, hF, hl⟩ := is_lst.1 i
    exact .lst (SqL.of (ok.lst hF)) (dpAll_of ok ds ps vs h1 hl)
  | .frl ds, p, v, e, i => by
    unfold toPy at e
    obtain ⟨ps, h1, h2⟩ := Option.map_eq_some_iff.mp e
    subst h2
    obtain ⟨a, vs, rfl, hF, hl⟩ := is_frl.1 i
    exact .lst (ok.sqL hF) (dpAll_of ok ds ps vs h1 hl)
  | .tup ds, p, v, e, i => by
    unfold toPy at e
    obtain ⟨ps, h1, h2⟩ := Option.map_eq_some_iff.mp e
    subst h2
    obtain ⟨a, vs, rfl, hF, hl⟩ := is_tup.1 i
    exact .tup (ok.sqT hF) (dpAll_of ok ds ps vs h1 hl)
  | .ty _, p, v, e, i => by unfold toPy at e; cases e
  | .dct _ _, p, v, e, i => by unfold toPy at e; cases e
  | .ins _ _ _, p, v, e, i => by unfold toPy at e; cases e
  | .cell _, p, v, e, i => by unfold toPy at e; cases e
  | .exc _ _ _, p, v, e, i => by unfold toPy at e; cases e
theorem dpAll_of (ok : Ok K F M H) : ∀ (ds : List D) (ps : List PyData) (vs : List V), toPyL ds = some ps → IsL K F ds vs → DpAll K H vs ps
  | [], ps, vs, e, i => by
    unfold toPyL at e; cases e; rw [isL_nil.1 i]; exact .nil
  | d :: ds, ps, vs, e, i => by
    unfold toPyL at e
    obtain ⟨p, h1, h2⟩ := Option.bind_eq_some_iff.mp e
    obtain ⟨qs, h3, h4⟩ := Option.map_eq_some_iff.mp h2
    subst h4
    obtain ⟨v, r, rfl, i1, i2⟩ := isL_cons.1 i
    exact .cons (dp_of ok d p v h1 i1) (dpAll_of ok ds qs r h3 i2)
end
end
def EqP (neg : Bool) (d1 d2 : D) (M : Store) (k : DK) : Prop := ∃ p q, toPy d1 = some p ∧ toPy d2 = some q ∧ SeqAt.shaped p = true ∧ SeqAt.shaped q = true ∧ k (.bl (if neg then !PyData.eqv p q else PyData.eqv p q)) M
/-- scalars -/
def sc : D → Option V
  | .non => some .non | .bl b => some (.bl b) | .int i => some (.int i) | .str x => some (.str x)
  | _ => none
theorem sc_is {K : PySem.W.Frag} {F : Hp} {d : D} {v u : V} (h : sc d = some v) (i : Is K F d u) : u = v := by
  unfold sc at h
  split at h
  · cases h; exact is_non.1 i
  · cases h; exact is_bl.1 i
  · cases h; exact is_int.1 i
  · cases h; exact is_str.1 i
  · cases h
def EqS (neg : Bool) (d1 d2 : D) (M : Store) (k : DK) : Prop := ∃ x y, sc d1 = some x ∧ sc d2 = some y ∧ scal x y = true ∧ k (.bl (if neg then !decide (x = y) else decide (x = y))) M
/-- is None -/
def isNon : D → Bool
  | .non => true
  | _ => false
theorem isNon_of {K : PySem.W.Frag} {F : Hp} {d : D} {v : V} (i : Is K F d v) : decide (v = .non) = isNon d := by
  cases d with
  | non => rw [is_non.1 i]; rfl
  | bl b => rw [is_bl.1 i]; rfl
  | int b => rw [is_int.1 i]; rfl
  | str b => rw [is_str.1 i]; rfl
  | ty b => rw [is_ty.1 i]; rfl
  | cell b => rw [is_cell.1 i]; rfl
  | tup b => obtain ⟨_, _, rfl, _⟩ := is_tup.1 i; rfl
  | lst b => obtain ⟨_, _, rfl, _⟩ := is_lst.1 i; rfl
  | frl b => obtain ⟨_, _, rfl, _⟩ := is_frl.1 i; rfl
  | dct b c => obtain ⟨_, _, _, rfl, _⟩ := is_dct.1 i; rfl
  | ins b c z => obtain ⟨_, _, _, rfl, _⟩ := is_ins.1 i; rfl
  | exc b c z => obtain ⟨_, _, _, rfl, _⟩ := is_exc.1 i; rfl
/-- in, not in: flat data in a sequence -/
def seqD (M : Store) : D → Option (List D)
  | .tup ds => some ds | .lst ds => some ds | .frl ds => some ds
  | .cell a => match M a with
    | some (.lst ds) => some ds
    | _ => none
  | _ => none
theorem seq_of {K : PySem.W.Frag} {F H : Hp} (ok : Ok K F M H) {d : D} {ds : List D} {v : V} (h : seqD M d = some ds) (i : Is K F d v) : ∃ a vs, v = .ref a ∧ (SqL K H a vs ∨ SqT K H a vs) ∧ IsL K F ds vs := by
  unfold seqD at h
  split at h
  · cases h; obtain ⟨a, vs, e, h1, h2⟩ := is_tup.1 i; exact ⟨a, vs, e, .inr (ok.sqT h1), h2⟩
  · cases h; obtain ⟨a, vs, e, h1, h2⟩ := is_lst.1 i; exact ⟨a, vs, e, .inl (SqL.of (ok.lst h1)), h2⟩
  · cases h; obtain ⟨a, vs, e, h1, h2⟩ := is_frl.1 i; exact ⟨a, vs, e, .inl (ok.sqL h1), h2⟩
  · rename_i a
    split at h
    · rename_i m xs e
      cases h
      obtain ⟨_, o, h1, vs, h2, h3⟩ := ok.mem a _ e
      subst h2
      exact ⟨a, vs, is_cell.1 i, .inl (SqL.of h1), h3⟩
    · cases h
  · cases h
def flatL : List D → Option (List V)
  | [] => some []
  | d :: ds => (sc d).bind fun v => (flatL ds).map fun vs => v :: vs
theorem flatL_of {K : PySem.W.Frag} {F : Hp} : ∀ {ds : List D} {vs us : List V}, flatL ds = some vs → IsL K F ds us → us = vs
  | [], _, _, h, i => by unfold flatL at h; cases h; exact isL_nil.1 i
  | d :: ds, _, _, h, i => by
    unfold flatL at h
    obtain ⟨p, h1, h2⟩ := Option.bind_eq_some_iff.mp h
    obtain ⟨qs, h3, h4⟩ := Option.map_eq_some_iff.mp h2
    subst h4
    obtain ⟨v, r, rfl, i1, i2⟩ := isL_cons.1 i
    rw [sc_is h1 i1, flatL_of h3 i2]
theorem flatV_sc {d : D} {v : V} (h : sc d = some v) : flatV v = true := by
  unfold sc at h
  split at h <;> cases h <;> rfl
theorem flatL_all : ∀ {ds : List D} {vs : List V}, flatL ds = some vs → vs.all flatV = true
  | [], _, h => by unfold flatL at h; cases h; rfl
  | d :: ds, _, h => by
    unfold flatL at h
    obtain ⟨p, h1, h2⟩ := Option.bind_eq_some_iff.mp h
    obtain ⟨qs, h3, h4⟩ := Option.map_eq_some_iff.mp h2
    subst h4
    rw [List.all_cons, flatV_sc h1, flatL_all h3]
    rfl
def InP (neg : Bool) (d1 d2 : D) (M : Store) (k : DK) : Prop := ∃ x ds vs, sc d1 = some x ∧ seqD M d2 = some ds ∧ flatL ds = some vs ∧ k (.bl (if neg then !inV x vs else inV x vs)) M
end
end DL
end
section
set_option Elab.async false
set_option linter.all false
set_option maxRecDepth 100000
namespace DL
open PySem L2
section
variable {X : Cx} {a b e : Expr} {es rest : List Expr} {Δ : DS} {M : Store} {k : DK} {kb : BK} {pos : Pos}
/-! ### tests -/
theorem TeD.mono {k' : BK} (h : TeD X e Δ M kb) (hk : ∀ d M', kb d M' → k' d M') : TeD X e Δ M k' := fun F H σ Q hs ok post => h F H σ Q hs ok fun d M' F' H' q => post d M' F' H' (hk d M' q)
theorem te_not (h : TeD X a Δ M fun c M' => kb (!c) M') : TeD X (.UnaryOp .Not a pos) Δ M kb := fun F H σ Q hs ok post =>
  semT_of (pt_not pt_sem) (h F H σ _ hs ok fun d M' F' H' q st ok' => post _ M' F' H' q st ok')
/-- a chain of and, or: a test whatever its whole is -/
def SemW (X : Cx) (e : Expr) : TT := fun σ H Q => ∀ (whole : PySem.Sem Value) pins s, Inv X pins σ H s → wpAny (model X.prog X.w) X.A (isTrue e X.env whole) (TP X pins σ Q) X.xe s
theorem pw_sem : PW X e (SemW X e) := ⟨fun wh pins s _ _ _ I h => h wh pins s I⟩
theorem semW_of {t : TT} {σ : L2.St} {H : Hp} {Q : Bool → Hp → Prop} (h : PW X e t) (q : t σ H Q) : SemW X e σ H Q := fun wh pins s I => h.run wh pins s σ H Q I q
def WeD (X : Cx) (e : Expr) (Δ : DS) (M : Store) (k : BK) : Prop := ∀ F H σ (Q : Bool → Hp → Prop), IsS X.K F Δ σ → Ok X.K F M H → PostT X.K F M H k Q → SemW X e σ H Q
theorem te_w (h : WeD X e Δ M kb) : TeD X e Δ M kb := fun F H σ Q hs ok post => semT_of (PW.pt pw_sem) (h F H σ Q hs ok post)
theorem we_and1 (h : TeD X a Δ M kb) : WeD X (.BoolOp .And [a] pos) Δ M kb := fun F H σ Q hs ok post => semW_of (pw_and1 pt_sem) (h F H σ Q hs ok post)
theorem we_or1 (h : TeD X a Δ M kb) : WeD X (.BoolOp .Or [a] pos) Δ M kb := fun F H σ Q hs ok post => semW_of (pw_or1 pt_sem) (h F H σ Q hs ok post)
theorem we_and (h : TeD X a Δ M fun c M1 => if c = true then WeD X (.BoolOp .And (b :: rest) pos) Δ M1 kb else kb false M1) : WeD X (.BoolOp .And (a :: b :: rest) pos) Δ M kb := fun F H σ Q hs ok post =>
  semW_of (pw_and pt_sem pw_sem) (h F H σ _ hs ok fun c M' F' H' q st ok' => by
    cases c with
    | true => exact q F' H' σ Q (hs.mono st.ext) ok' (post.step st)
    | false => exact post _ M' F' H' q st ok')
theorem we_or (h : TeD X a Δ M fun c M1 => if c = true then kb true M1 else WeD X (.BoolOp .Or (b :: rest) pos) Δ M1 kb) : WeD X (.BoolOp .Or (a :: b :: rest) pos) Δ M kb := fun F H σ Q hs ok post =>
  semW_of (pw_or pt_sem pw_sem) (h F H σ _ hs ok fun c M' F' H' q st ok' => by
    cases c with
    | false => exact q F' H' σ Q (hs.mono st.ext) ok' (post.step st)
    | true => exact post _ M' F' H' q st ok')
/-- and, or, not as values (bools) -/
theorem ev_one {op} (h : EvD X a Δ M k) : EvD X (.BoolOp op [a] pos) Δ M k := fun F H σ Q hs ok post => sem_of (pe_one pe_sem) (h F H σ Q hs ok post)
theorem ev_and (h : EvD X a Δ M fun d M1 => ∃ c, d = .bl c ∧ if c = true then EvD X (.BoolOp .And (b :: rest) pos) Δ M1 k else k (.bl false) M1) : EvD X (.BoolOp .And (a :: b :: rest) pos) Δ M k := fun F H σ Q hs ok post =>
  sem_of (pe_and pe_sem pe_sem) (h F H σ _ hs ok fun d M' F' H' v ⟨c, ed, q⟩ st ok' i => by
    subst ed
    refine ⟨c, is_bl.1 i, ?_⟩
    cases c with
    | true => exact q F' H' σ Q (hs.mono st.ext) ok' (post.step st)
    | false => exact (post.step st).here ok' q (is_bl.2 rfl))
theorem ev_not (h : EvD X a Δ M fun d M1 => ∃ c, d = .bl c ∧ k (.bl (!c)) M1) : EvD X (.UnaryOp .Not a pos) Δ M k := fun F H σ Q hs ok post =>
  sem_of (pe_not pe_sem) (h F H σ _ hs ok fun d M' F' H' v ⟨c, ed, q⟩ st ok' i => by
    subst ed
    exact ⟨c, is_bl.1 i, (post.step st).here ok' q (is_bl.2 rfl)⟩)
/-- x or y by truth, x a sequence or a flat thing -/
def truD (M : Store) : D → Option Bool
  | .non => some false | .bl b => some b | .int i => some (i != 0)
  | .tup ds => some (!ds.isEmpty) | .lst ds => some (!ds.isEmpty) | .frl ds => some (!ds.isEmpty) | .str x => if x.length ≤ sizeLine then some ((x.length : Int) != 0) else none
  | .cell a => match M a with
    | some (.lst ds) => some (!ds.isEmpty)
    | _ => none
  | _ => none
theorem tru_of {K : PySem.W.Frag} {F H : Hp} (ok : Ok K F M H) {d : D} {c : Bool} {v : V} (h : truD M d = some c) (i : Is K F d v) : TruV K v H c := by
  unfold truD at h
  split at h
  · cases h; rw [is_non.1 i]; rfl
  · cases h; rw [is_bl.1 i]; rfl
  · cases h; rw [is_int.1 i]; rfl
  · cases h; obtain ⟨p, vs, rfl, h1, h2⟩ := is_tup.1 i; exact .inr (.inl ⟨vs, ok.sqT h1, by rw [h2.isEmpty]⟩)
  · cases h; obtain ⟨p, vs, rfl, h1, h2⟩ := is_lst.1 i; exact .inl ⟨vs, SqL.of (ok.lst h1), by rw [h2.isEmpty]⟩
  · cases h; obtain ⟨p, vs, rfl, h1, h2⟩ := is_frl.1 i; exact .inl ⟨vs, ok.sqL h1, by rw [h2.isEmpty]⟩
  · split at h
    · rename_i hl
      cases h; rw [is_str.1 i]; exact ⟨hl, rfl⟩
    · cases h
  · rename_i p
    split at h
    · rename_i m xs e
      cases h
      obtain ⟨_, o, h1, vs, h2, h3⟩ := ok.mem p _ e
      subst h2
      rw [is_cell.1 i]
      exact .inl ⟨vs, SqL.of h1, by rw [h3.isEmpty]⟩
    · cases h
  · cases h
theorem ev_orT (h : EvD X a Δ M fun d M1 => ∃ c, truD M1 d = some c ∧ if c = true then k d M1 else EvD X (.BoolOp .Or (b :: rest) pos) Δ M1 k) : EvD X (.BoolOp .Or (a :: b :: rest) pos) Δ M k := fun F H σ Q hs ok post =>
  sem_of (pe_orT pe_sem pe_sem) (h F H σ _ hs ok fun d M' F' H' v ⟨c, ed, q⟩ st ok' i => by
    refine ⟨c, tru_of ok' ed i, ?_⟩
    cases c with
    | false => exact q F' H' σ Q (hs.mono st.ext) ok' (post.step st)
    | true => exact (post.step st).here ok' q i)
theorem te_truth (he : ∀ whole, isTrue a X.env whole = (do let v ← whole; standAt a.pos; holding [v] (truthy v))) (h : EvD X a Δ M fun d M1 => ∃ c, truD M1 d = some c ∧ kb c M1) : TeD X a Δ M kb := fun F H σ Q hs ok post =>
  semT_of (pt_truth pe_sem he) (h F H σ _ hs ok fun d M' F' H' v ⟨c, ed, q⟩ st ok' i => ⟨c, tru_of ok' ed i, post _ M' F' H' q st ok'⟩)
theorem ev_if {c : Expr} (h : TeD X c Δ M fun t M1 => if t = true then EvD X a Δ M1 k else EvD X b Δ M1 k) : EvD X (.IfExp c a b pos) Δ M k := fun F H σ Q hs ok post =>
  sem_of (pe_ifExp pt_sem pe_sem pe_sem) (h F H σ _ hs ok fun t M' F' H' q st ok' => by
    cases t with
    | true => exact q F' H' σ Q (hs.mono st.ext) ok' (post.step st)
    | false => exact q F' H' σ Q (hs.mono st.ext) ok' (post.step st))
/-! ### argument lists, displays -/
theorem ea_nil {ka : AK} (h : ka [] M) : EvA X [] Δ M ka := fun F H σ Q hs ok post => semA_of pa_nil (post [] M F H [] h Stp.refl ok IsL.nil)
theorem ea_cons {ka : AK} (h : EvD X e Δ M fun d M1 => EvA X es Δ M1 fun ds M2 => ka (d :: ds) M2) (hs : starEach (e :: es) X.env = (false, eval e X.env) :: starEach es X.env := by rfl) : EvA X (e :: es) Δ M ka := fun F H σ Q hS ok post =>
  semA_of (pa_cons pe_sem pa_sem hs) (h F H σ _ hS ok fun d M1 F1 H1 v q st1 ok1 i1 => q F1 H1 σ _ (hS.mono st1.ext) ok1 fun ds M2 F2 H2 vs q2 st2 ok2 i2 =>
    post (d :: ds) M2 F2 H2 (v :: vs) q2 (st1.trans st2) ok2 (IsL.cons (i1.mono st2.ext) i2))
theorem EvA.mono {ka kc : AK} (h : EvA X es Δ M ka) (hk : ∀ d M', ka d M' → kc d M') : EvA X es Δ M kc := fun F H σ Q hs ok post => h F H σ Q hs ok fun d M' F' H' v q => post d M' F' H' v (hk d M' q)
theorem ev_tup {x1} (h : EvA X es Δ M fun ds M1 => ds.length ≤ sizeLine ∧ k (.tup ds) M1) : EvD X (.Tuple es x1 pos) Δ M k := fun F H σ Q hs ok post =>
  sem_of (pe_tupB pa_sem) (h F H σ _ hs ok fun ds M1 F1 H1 vs q st ok1 i => ⟨by rw [← i.length]; exact q.1, fun p ob hp hd => (post.step st).fresh ok1 q.2 hp (tup_new hd i (ok1.fresh hp).1)⟩)
theorem EvL.frz (h : EvL X e Δ M fun ds M' => k (.lst ds) M') : EvD X e Δ M k := fun F H σ Q hs ok post => h F H σ Q hs ok fun ds M' F' H' q vs hk st ok' f m n hq i => by
  refine post (.lst ds) M' (upd F' q (.lst vs)) H' (.ref q) hk ⟨st.ext.trans (same_new f), fun x o e => ?_, st.keep, st.dom, st.there⟩ ⟨fun x o e => ?_, fun x m' e => ?_⟩ (lst_new i f)
  · by_cases z : x = q
    · subst z; exact .inr (.inl n)
    · rw [upd_ne z] at e; exact st.new x o e
  · by_cases z : x = q
    · subst z; rw [upd_same] at e; cases e; exact .inl hq
    · rw [upd_ne z] at e; exact ok'.sub x o e
  · obtain ⟨h1, o, h2, h3⟩ := ok'.mem x m' e
    have z : x ≠ q := fun z => by rw [z, m] at e; cases e
    exact ⟨by rw [upd_ne z]; exact h1, o, h2, h3.mono (same_new f)⟩
theorem PostL.new {K : PySem.W.Frag} {F F1 : Hp} {M M1 : Store} {H H1 : Hp} {ka : AK} {Q : VK} {ds : List D} {vs : List V} (p : PostL K F M H ka Q) (st : Stp F M H F1 M1 H1) (ok : Ok K F1 M1 H1) (hk : ka ds M1) {q : Addr} (hq : H1 q = none) (i : IsL K F1 ds vs) : Q (.ref q) (upd H1 q (.lst vs)) := by
  have hn : H q = none := by
    cases z : H q with
    | none => rfl
    | some o => exact absurd hq (st.there q (by rw [z]; simp))
  refine p ds M1 F1 (upd H1 q (.lst vs)) q vs hk ⟨st.ext, st.new, fun x o e m => ?_, st.dom, fun x n => ?_⟩ ⟨fun x o e => ?_, fun x m e => ?_⟩ (ok.fresh hq).1 (ok.fresh hq).2 hn upd_same i
  · rw [upd_ne (ne_of_none e hn)]; exact st.keep x o e m
  · by_cases z : x = q
    · subst z; rw [upd_same]; simp
    · rw [upd_ne z]; exact st.there x n
  · have z : x ≠ q := fun z => by rw [z, (ok.fresh hq).1] at e; cases e
    rw [upd_ne z]; exact ok.sub x o e
  · have z : x ≠ q := fun z => by rw [z, (ok.fresh hq).2] at e; cases e
    obtain ⟨h1, o, h2, h3⟩ := ok.mem x m e
    exact ⟨h1, o, by rw [upd_ne z]; exact h2, h3⟩
theorem el_lst {ka : AK} (h : EvA X es Δ M fun ds M1 => ds.length ≤ sizeLine ∧ ka ds M1) : EvL X (.List es pos) Δ M ka := fun F H σ Q hs ok post =>
  sem_of (pe_lst pa_sem) (h F H σ _ hs ok fun ds M1 F1 H1 vs q st ok1 i => ⟨by rw [← i.length]; exact q.1, fun p hp => post.new st ok1 q.2 hp i⟩)
/-! ### items and slices -/
def strOf : D → Option Str
  | .str z => some z
  | _ => none
theorem strOf_is {K : PySem.W.Frag} {F : Hp} {d : D} {z : Str} {v : V} (h : strOf d = some z) (i : Is K F d v) : v = .str z := by
  unfold strOf at h
  split at h
  · cases h; exact is_str.1 i
  · cases h
def tupOf : D → Option (List D)
  | .tup z => some z
  | _ => none
theorem tupOf_is {d : D} {z : List D} (h : tupOf d = some z) : d = .tup z := by
  unfold tupOf at h
  split at h
  · cases h; rfl
  · cases h
/-- lists -/
def lsD (M : Store) : D → Option (List D)
  | .lst ds => some ds | .frl ds => some ds
  | .cell a => match M a with
    | some (.lst ds) => some ds
    | _ => none
  | _ => none
theorem ls_of {K : PySem.W.Frag} {F H : Hp} (ok : Ok K F M H) {d : D} {ds : List D} {v : V} (h : lsD M d = some ds) (i : Is K F d v) : ∃ a vs, v = .ref a ∧ SqL K H a vs ∧ IsL K F ds vs := by
  unfold lsD at h
  split at h
  · cases h; obtain ⟨a, vs, e, h1, h2⟩ := is_lst.1 i; exact ⟨a, vs, e, SqL.of (ok.lst h1), h2⟩
  · cases h; obtain ⟨a, vs, e, h1, h2⟩ := is_frl.1 i; exact ⟨a, vs, e, ok.sqL h1, h2⟩
  · rename_i a
    split at h
    · rename_i m xs e
      cases h
      obtain ⟨_, o, h1, vs, h2, h3⟩ := ok.mem a _ e
      subst h2
      exact ⟨a, vs, is_cell.1 i, SqL.of h1, h3⟩
    · cases h
  · cases h
def atD (M : Store) (d : D) (i : Int) : Option D := match strOf d with
  | some z => if z.length ≤ sizeLine then (atI z.cps.toList i).map fun c => .str ⟨#[c]⟩ else none
  | none => (seqD M d).bind fun ds => atI ds i
theorem atI_is {K : PySem.W.Frag} {F : Hp} {ds : List D} {vs : List V} {i : Int} {d : D} (h : IsL K F ds vs) (e : atI ds i = some d) : ∃ v, atI vs i = some v ∧ Is K F d v := by
  unfold atI at e ⊢
  rw [← h.length]
  obtain ⟨j, h1, h2⟩ := Option.bind_eq_some_iff.mp e
  obtain ⟨v, h3, h4⟩ := h.get h2
  exact ⟨v, Option.bind_eq_some_iff.mpr ⟨j, h1, h3⟩, h4⟩
theorem ev_ix (hs : PlainIx b) (h : EvD X a Δ M fun d1 M1 => EvD X b Δ M1 fun d2 M2 => ∃ i r, d2 = .int i ∧ atD M2 d1 i = some r ∧ k r M2) : EvD X (.Subscript a b pos) Δ M k := fun F H σ Q hS ok post =>
  sem_of (pe_ix ix_seq pe_sem pe_sem hs) (two h hS ok fun d1 d2 M' F' H' x y ⟨i, r, e, ha, hk⟩ st ok' i1 i2 => by
    subst e
    unfold atD at ha
    cases hz : strOf d1 with
    | some z =>
      rw [hz] at ha
      dsimp only at ha
      split at ha
      · rename_i hl
        obtain ⟨c, h1, h2⟩ := Option.map_eq_some_iff.mp ha
        subst h2
        exact .inr (.inr ⟨z, i, c, strOf_is hz i1, is_int.1 i2, hl, h1, (post.step st).here ok' hk (is_str.2 rfl)⟩)
      · cases ha
    | none =>
      rw [hz] at ha
      dsimp only at ha
      obtain ⟨ds, h1, h2⟩ := Option.bind_eq_some_iff.mp ha
      obtain ⟨p, vs, e, hq, hl⟩ := seq_of ok' h1 i1
      obtain ⟨v, h3, h4⟩ := atI_is hl h2
      have q := (post.step st).here ok' hk h4
      rcases hq with hq | hq
      · exact .inl ⟨p, vs, i, v, e, is_int.1 i2, hq, h3, q⟩
      · exact .inr (.inl ⟨p, vs, i, v, e, is_int.1 i2, hq, h3, q⟩))
def cutD (ds : List D) (lo hi : Option Int) : List D := (ds.drop (HT.sIx ds.length 0 lo)).take (HT.sIx ds.length ds.length hi - HT.sIx ds.length 0 lo)
theorem cut_is {K : PySem.W.Frag} {F : Hp} {ds : List D} {vs : List V} {lo hi : Option Int} (h : IsL K F ds vs) : IsL K F (cutD ds lo hi) (cutV vs lo hi) := by
  unfold cutD cutV
  rw [← h.length]
  exact (h.drop _).take _
def SlP (d : D) (lo hi : Option Int) (M : Store) (k : DK) : Prop := match strOf d, tupOf d with
  | some z, _ => z.length ≤ sizeLine ∧ k (.str (cutS z lo hi)) M
  | none, some ds => k (.tup (cutD ds lo hi)) M
  | none, none => ∃ ds, lsD M d = some ds ∧ k (.lst (cutD ds lo hi)) M
def rSlAll (K : PySem.W.Frag) : V → Option Int → Option Int → Hp → VK → Prop := fun x lo hi H Q => rSlL K x lo hi H Q ∨ rSlB K x lo hi H Q ∨ ∃ z, x = .str z ∧ z.length ≤ sizeLine ∧ Q (.str (cutS z lo hi)) H
theorem sl_all : SlR X (rSlAll X.K) := sl_list.or (sl_tupB.or sl_str)
theorem p_sl {F H : Hp} {d : D} {lo hi : Option Int} {x : V} {Q : VK} (h : SlP d lo hi M k) (ok : Ok X.K F M H) (i : Is X.K F d x) (post : Post X.K F M H k Q) : rSlAll X.K x lo hi H Q := by
  unfold SlP at h
  split at h
  · rename_i z e
    exact .inr (.inr ⟨_, strOf_is (by assumption) i, h.1, post.here ok h.2 (is_str.2 rfl)⟩)
  · rename_i ds e1 e2
    have e := tupOf_is e2
    subst e
    obtain ⟨p, vs, e, hq, hl⟩ := is_tup.1 i
    refine .inr (.inl ⟨p, vs, e, ok.sqT hq, ?_⟩)
    by_cases hw : HT.sIx vs.length 0 lo = 0 ∧ HT.sIx vs.length vs.length hi = vs.length
    rotate_left
    · rw [if_neg hw]
      exact fun q ob hq' hd => post.fresh ok h hq' (tup_new hd (cut_is hl) (ok.fresh hq').1)
    rw [if_pos hw]
    have ec : cutD ds lo hi = ds := by
      unfold cutD
      rw [hl.length, hw.1, hw.2, List.drop_zero, Nat.sub_zero, ← hl.length, List.take_length]
    rw [ec] at h
    exact post.here ok h (is_tup.2 ⟨p, vs, rfl, hq, hl⟩)
  · obtain ⟨ds, h1, hk⟩ := h
    obtain ⟨p, vs, e, hq, hl⟩ := ls_of ok h1 i
    exact .inl ⟨p, vs, e, hq, fun q hq' => post.fresh ok hk hq' (lst_new (cut_is hl) (ok.fresh hq').1)⟩
theorem ev_sl10 {p2 : Pos} (h : EvD X a Δ M fun d M1 => EvD X b Δ M1 fun d2 M2 => ∃ i, d2 = .int i ∧ SlP d (some i) none M2 k) : EvD X (.Subscript a (.Slice (some b) none none p2) pos) Δ M k := fun F H σ Q hs ok post =>
  sem_of (pe_slice sl_all pe_sem (po_some pe_sem) po_none) (two h hs ok fun d1 d2 M' F' H' x y ⟨i, e, q⟩ st ok' i1 i2 => by
    subst e
    exact ⟨i, is_int.1 i2, p_sl q ok' i1 (post.step st)⟩)
theorem ev_sl01 {p2 : Pos} (h : EvD X a Δ M fun d M1 => EvD X b Δ M1 fun d2 M2 => ∃ i, d2 = .int i ∧ SlP d none (some i) M2 k) : EvD X (.Subscript a (.Slice none (some b) none p2) pos) Δ M k := fun F H σ Q hs ok post =>
  sem_of (pe_slice sl_all pe_sem po_none (po_some pe_sem)) (two h hs ok fun d1 d2 M' F' H' x y ⟨i, e, q⟩ st ok' i1 i2 => by
    subst e
    exact ⟨i, is_int.1 i2, p_sl q ok' i1 (post.step st)⟩)
theorem ev_sl11 {c : Expr} {p2 : Pos} (h : EvD X a Δ M fun d M1 => EvD X b Δ M1 fun d2 M2 => ∃ i, d2 = .int i ∧ EvD X c Δ M2 fun d3 M3 => ∃ j, d3 = .int j ∧ SlP d (some i) (some j) M3 k) : EvD X (.Subscript a (.Slice (some b) (some c) none p2) pos) Δ M k := fun F H σ Q hs ok post =>
  sem_of (pe_slice sl_all pe_sem (po_some pe_sem) (po_some pe_sem)) (two h hs ok fun d1 d2 M' F' H' x y ⟨i, e, q⟩ st ok' i1 i2 => by
    subst e
    exact ⟨i, is_int.1 i2, q F' H' σ _ (hs.mono st.ext) ok' fun d3 M3 F3 H3 u ⟨j, e3, q3⟩ st3 ok3 i3 => by
      subst e3
      exact ⟨j, is_int.1 i3, p_sl q3 ok3 (i1.mono st3.ext) (post.step (st.trans st3))⟩⟩)
/-- x[::-1] of a list -/
theorem el_rev {ka : AK} {j : Nat} {p1 p2 p3 : Pos} (h : EvD X a Δ M fun d M1 => ∃ ds, lsD M1 d = some ds ∧ ka ds.reverse M1) : EvL X (.Subscript a (.Slice none none (some (.UnaryOp .USub (.Constant (.int 1) j p1) p2)) p3) pos) Δ M ka := fun F H σ Q hs ok post =>
  sem_of (pe_revL pe_sem) (h F H σ _ hs ok fun d M1 F1 H1 v ⟨ds, h1, hk⟩ st ok1 i => by
    obtain ⟨p, vs, e, hq, hl⟩ := ls_of ok1 h1 i
    exact ⟨p, vs, e, hq, fun q hq' => post.new st ok1 hk hq' hl.rev⟩)
/-! ### built-ins by name -/
def PB (X : Cx) (r : List V → Hp → VK → Prop) (ds : List D) (M : Store) (k : DK) : Prop := ∀ F H vs Q, Ok X.K F M H → IsL X.K F ds vs → Post X.K F M H k Q → r vs H Q
def PBL (X : Cx) (r : List V → Hp → VK → Prop) (ds : List D) (M : Store) (k : AK) : Prop := ∀ F0 M0 H0 F H vs Q, Stp F0 M0 H0 F M H → Ok X.K F M H → IsL X.K F ds vs → PostL X.K F0 M0 H0 k Q → r vs H Q
theorem ev_callB {x : Str} {id : String} {r : List V → Hp → VK → Prop} {p : Pos} (hc : CallR X (.builtin id) r) (hg : Gl X x) (hm : X.mg x = none) (hv : bootBuiltins x = some (.builtin id)) (hn : x ≠ "__name__") (hdb : (x == ("__debug__" : Str)) = false)
    (he : starEach (e :: es) X.env = (false, eval e X.env) :: starEach es X.env) (hpl : (backTo pos (starEach es X.env)).any (·.1) = false) (h : EvA X (e :: es) Δ M fun ds M1 => PB X r ds M1 k) : EvD X (.Call (.Name x p) (e :: es) [] pos) Δ M k := fun F H σ Q hs ok post =>
  sem_of (pe_callB hc hg hm hv pa_sem hn hdb he hpl) (h F H σ _ hs ok fun ds M1 F1 H1 vs q st ok1 i => q F1 H1 vs Q ok1 i (post.step st))
end
end DL
end
section
set_option Elab.async false
set_option linter.all false
set_option maxRecDepth 100000
namespace DL
open PySem L2
section
variable {X : Cx} {a b e e2 : Expr} {es rest : List Expr} {Δ : DS} {M : Store} {k : DK} {kb : BK} {ka : AK} {p pos : Pos} {x : Str} {bid T : String} {r : List V → Hp → VK → Prop}
theorem ev_callT (hc : CallR X (.type T) r) (hg : Gl X x) (hm : X.mg x = none) (hv : bootBuiltins x = some (.type T)) (hn : x ≠ "__name__") (hdb : (x == ("__debug__" : Str)) = false)
    (he : starEach (e :: es) X.env = (false, eval e X.env) :: starEach es X.env) (hpl : (backTo pos (starEach es X.env)).any (·.1) = false) (h : EvA X (e :: es) Δ M fun ds M1 => PB X r ds M1 k) : EvD X (.Call (.Name x p) (e :: es) [] pos) Δ M k := fun F H σ Q hs ok post =>
  sem_of (pe_callTy hc hg hm hv pa_sem hn hdb he hpl) (h F H σ _ hs ok fun ds M1 F1 H1 vs q st ok1 i => q F1 H1 vs Q ok1 i (post.step st))
/-- fresh lists by a call -/
theorem el_callT (hc : CallR X (.type T) r) (hg : Gl X x) (hm : X.mg x = none) (hv : bootBuiltins x = some (.type T)) (hn : x ≠ "__name__") (hdb : (x == ("__debug__" : Str)) = false)
    (he : starEach (e :: es) X.env = (false, eval e X.env) :: starEach es X.env) (hpl : (backTo pos (starEach es X.env)).any (·.1) = false) (h : EvA X (e :: es) Δ M fun ds M1 => PBL X r ds M1 ka) : EvL X (.Call (.Name x p) (e :: es) [] pos) Δ M ka := fun F H σ Q hs ok post =>
  sem_of (pe_callTy hc hg hm hv pa_sem hn hdb he hpl) (h F H σ _ hs ok fun ds M1 F1 H1 vs q st ok1 i => q F M H F1 H1 vs Q st ok1 i post)
theorem one1 {R : List D → Store → Prop} (h : EvD X e Δ M fun d M1 => R [d] M1) (hs : starEach [e] X.env = [(false, eval e X.env)]) : EvA X [e] Δ M R := ea_cons (h.mono fun _ _ q => ea_nil q) hs
theorem two2 {R : List D → Store → Prop} (h : EvD X e Δ M fun d M1 => EvD X e2 Δ M1 fun d2 M2 => R [d, d2] M2) (hs : starEach [e, e2] X.env = (false, eval e X.env) :: starEach [e2] X.env) (hs2 : starEach [e2] X.env = [(false, eval e2 X.env)]) : EvA X [e, e2] Δ M R :=
  ea_cons (h.mono fun _ _ q => one1 q hs2) hs
theorem isL1 {K : PySem.W.Frag} {F : Hp} {d : D} {vs : List V} (h : IsL K F [d] vs) : ∃ v, vs = [v] ∧ Is K F d v := by
  obtain ⟨v, r, rfl, h1, h2⟩ := isL_cons.1 h
  rw [isL_nil.1 h2]
  exact ⟨v, rfl, h1⟩
theorem isL2 {K : PySem.W.Frag} {F : Hp} {d d2 : D} {vs : List V} (h : IsL K F [d, d2] vs) : ∃ v v2, vs = [v, v2] ∧ Is K F d v ∧ Is K F d2 v2 := by
  obtain ⟨v, r, rfl, h1, h2⟩ := isL_cons.1 h
  obtain ⟨v2, rfl, h3⟩ := isL1 h2
  exact ⟨v, v2, rfl, h1, h3⟩
/-! len -/
def lenD (M : Store) (d : D) : Option Nat := match strOf d with
  | some z => if z.length ≤ sizeLine then some z.length else none
  | none => (seqD M d).map List.length
theorem ev_len (hg : Gl X "len") (hm : X.mg "len" = none) (h : EvD X e Δ M fun d M1 => ∃ n : Nat, lenD M1 d = some n ∧ k (.int n) M1) (hs : starEach [e] X.env = [(false, eval e X.env)] := by rfl) : EvD X (.Call (.Name "len" p) [e] [] pos) Δ M k :=
  ev_callB (call_len_seq.or call_len_str) hg hm PySem.boot_len (by decide) (by decide) hs rfl (one1 (h.mono fun d M1 ⟨n, h1, hk⟩ F H vs Q ok i post => by
    obtain ⟨v, rfl, iv⟩ := isL1 i
    unfold lenD at h1
    cases hz : strOf d with
    | some z =>
      rw [hz] at h1
      dsimp only at h1
      split at h1
      · cases h1
        rename_i hl
        exact .inr ⟨z, by rw [strOf_is hz iv], hl, post.here ok hk (is_int.2 rfl)⟩
      · cases h1
    | none =>
      rw [hz] at h1
      dsimp only at h1
      obtain ⟨ds, h2, h3⟩ := Option.map_eq_some_iff.mp h1
      obtain ⟨q, ws, rfl, hq, hl⟩ := seq_of ok h2 iv
      refine .inl ⟨q, ws, rfl, hq, post.here ok hk (is_int.2 ?_)⟩
      rw [← hl.length, h3]) hs)
/-! numbers -/
def NumP1 (g : Int → D) (d : D) (M : Store) (k : DK) : Prop := match d with
  | .int i => k (g i) M
  | _ => False
theorem ev_abs (hg : Gl X "abs") (hm : X.mg "abs" = none) (h : EvD X e Δ M fun d M1 => NumP1 (fun i => .int (if i < 0 then -i else i)) d M1 k) (hs : starEach [e] X.env = [(false, eval e X.env)] := by rfl) : EvD X (.Call (.Name "abs" p) [e] [] pos) Δ M k :=
  ev_callB call_abs hg hm (by decide +kernel) (by decide) (by decide) hs rfl (one1 (h.mono fun d M1 q F H vs Q ok i post => by
    obtain ⟨v, rfl, iv⟩ := isL1 i
    unfold NumP1 at q
    split at q
    · exact ⟨_, by rw [is_int.1 iv], post.here ok q (is_int.2 rfl)⟩
    · exact q.elim) hs)
def IntC (d : D) (M : Store) (k : DK) : Prop := match d with
  | .int i => k (.int i) M
  | .bl c => k (.int (if c then 1 else 0)) M
  | _ => False
theorem ev_intc (hg : Gl X "int") (hm : X.mg "int" = none) (h : EvD X e Δ M fun d M1 => IntC d M1 k) (hs : starEach [e] X.env = [(false, eval e X.env)] := by rfl) : EvD X (.Call (.Name "int" p) [e] [] pos) Δ M k :=
  ev_callT call_int1 hg hm (by decide +kernel) (by decide) (by decide) hs rfl (one1 (h.mono fun d M1 q F H vs Q ok i post => by
    obtain ⟨v, rfl, iv⟩ := isL1 i
    unfold IntC at q
    split at q
    · exact .inl ⟨_, by rw [is_int.1 iv], post.here ok q (is_int.2 rfl)⟩
    · exact .inr ⟨_, by rw [is_bl.1 iv], post.here ok q (is_int.2 rfl)⟩
    · exact q.elim) hs)
/-! sum, all, any of lists -/
theorem ev_all (hc : X.calm = true) (hg : Gl X "all") (hm : X.mg "all" = none) (h : EvD X e Δ M fun d M1 => ∃ ns : List Bool, lsD M1 d = some (ns.map D.bl) ∧ k (.bl (ns.all id)) M1) (hs : starEach [e] X.env = [(false, eval e X.env)] := by rfl) : EvD X (.Call (.Name "all" p) [e] [] pos) Δ M k :=
  ev_callB (cr_all hc) hg hm (by decide +kernel) (by decide) (by decide) hs rfl (one1 (h.mono fun d M1 ⟨ns, h1, hk⟩ F H vs Q ok i post => by
    obtain ⟨v, rfl, iv⟩ := isL1 i
    obtain ⟨q, ws, rfl, hq, hl⟩ := ls_of ok h1 iv
    rw [(IsL.bls ns).1 hl] at hq
    exact ⟨q, ns, rfl, hq, post.here ok hk (is_bl.2 rfl)⟩) hs)
/-! sorted of ints, of texts: a fresh list -/
/-! list(x), tuple(x) of sequences -/
/-! isinstance of built-in kinds -/
def kt : String → String → Option Bool
  | "int", "int" => some true | "int", "bool" => some false | "int", "str" => some false | "int", "list" => some false | "int", "tuple" => some false
  | "bool", "int" => some true | "bool", "bool" => some true | "bool", "str" => some false | "bool", "list" => some false | "bool", "tuple" => some false
  | "str", "int" => some false | "str", "bool" => some false | "str", "str" => some true | "str", "list" => some false | "str", "tuple" => some false
  | "list", "int" => some false | "list", "bool" => some false | "list", "str" => some false | "list", "list" => some true | "list", "tuple" => some false
  | "tuple", "int" => some false | "tuple", "bool" => some false | "tuple", "str" => some false | "tuple", "list" => some false | "tuple", "tuple" => some true
  | "NoneType", "int" => some false | "NoneType", "bool" => some false | "NoneType", "str" => some false | "NoneType", "list" => some false | "NoneType", "tuple" => some false
  | _, _ => none
theorem kt_kit {s t : String} {c : Bool} (h : kt s t = some c) : kitB s t = some c := by
  unfold kt at h
  split at h <;> first | (cases h; decide +kernel) | cases h
def tyD : D → Option String
  | .non => some "NoneType" | .bl _ => some "bool" | .int _ => some "int" | .str _ => some "str" | .tup _ => some "tuple" | .lst _ => some "list"
  | _ => none
theorem ty_of {K : PySem.W.Frag} {F H : Hp} (ok : Ok K F M H) {d : D} {s : String} {v : V} (h : tyD d = some s) (i : Is K F d v) : TyX K H v (.type s) := by
  unfold tyD at h
  split at h
  · cases h; rw [is_non.1 i]; exact .base .non
  · cases h; rw [is_bl.1 i]; exact .base (.bl _)
  · cases h; rw [is_int.1 i]; exact .base (.int _)
  · cases h; rw [is_str.1 i]; exact .base (.str _)
  · cases h
    obtain ⟨q, ws, rfl, hq, hl⟩ := is_tup.1 i
    rcases hq with hq | ⟨o, _, its, n, h1, h2, h3⟩
    · obtain ⟨ob, _, e⟩ := ok.bare hq
      exact .fTuple e
    · exact .kTuple h1 h2
  · cases h
    obtain ⟨q, ws, rfl, hq, hl⟩ := is_lst.1 i
    exact .base (.lst (ok.lst hq))
  · cases h
theorem ev_isi (hg : Gl X "isinstance") (hm : X.mg "isinstance" = none) (h : EvD X e Δ M fun d M1 => EvD X e2 Δ M1 fun d2 M2 => ∃ s t c, tyD d = some s ∧ d2 = .ty t ∧ kt s t = some c ∧ k (.bl c) M2) (hs : starEach [e, e2] X.env = (false, eval e X.env) :: starEach [e2] X.env := by rfl) (hs2 : starEach [e2] X.env = [(false, eval e2 X.env)] := by rfl) (hpl : (backTo pos (starEach [e2] X.env)).any (·.1) = false := by rfl) : EvD X (.Call (.Name "isinstance" p) [e, e2] [] pos) Δ M k :=
  ev_callB call_isi hg hm (by decide +kernel) (by decide) (by decide) hs hpl (two2 (h.mono fun d M1 q => q.mono fun d2 M2 ⟨s, t, c, h1, h2, h3, hk⟩ F H vs Q ok i post => by
    obtain ⟨v, v2, rfl, i1, i2⟩ := isL2 i
    subst h2
    rw [is_ty.1 i2]
    exact ⟨v, .ty t, .type s, .type t, c, rfl, .ty t, ty_of ok h1 i1, kit_ty (kt_kit h3), post.here ok hk (is_bl.2 rfl)⟩) hs hs2)
def ktAny (s : String) : List String → Option Bool
  | [] => some false
  | t :: r => match kt s t with
    | some true => some true
    | some false => ktAny s r
    | none => none
theorem ktAny_kit {K : PySem.W.Frag} {s : String} : ∀ {ts : List String} {c : Bool}, ktAny s ts = some c → PySem.W.kitAny K (.type s) (ts.map Value.type) = some c
  | [], _, h => by unfold ktAny at h; cases h; rfl
  | t :: r, c, h => by
    unfold ktAny at h
    rw [List.map_cons]
    split at h
    · rename_i hk
      cases h
      exact kitAny_cons (kit_ty (kt_kit hk)) (fun z => by cases z) (fun _ => rfl)
    · rename_i hk
      exact kitAny_cons (kit_ty (kt_kit hk)) (fun _ => ktAny_kit h) (fun z => by cases z)
    · cases h
theorem tys_of {K : PySem.W.Frag} {F : Hp} : ∀ {ts : List String} {vs : List V}, IsL K F (ts.map D.ty) vs → Paired ClsV vs (ts.map Value.type)
  | [], _, i => by rw [isL_nil.1 i]; exact .nil
  | t :: r, _, i => by
    obtain ⟨v, w, rfl, i1, i2⟩ := isL_cons.1 i
    rw [is_ty.1 i1]
    exact .cons (.ty t) (tys_of i2)
theorem ev_isiT {p2 : Pos} {x1 : Nat} (hg : Gl X "isinstance") (hm : X.mg "isinstance" = none) (h : EvD X e Δ M fun d M1 => EvA X es Δ M1 fun ds M2 => ∃ s ts c, tyD d = some s ∧ ds = ts.map D.ty ∧ ts.length ≤ sizeLine ∧ ktAny s ts = some c ∧ k (.bl c) M2) (hs : starEach [e, .Tuple es x1 p2] X.env = (false, eval e X.env) :: starEach [.Tuple es x1 p2] X.env := by rfl) (hs2 : starEach [.Tuple es x1 p2] X.env = [(false, eval (.Tuple es x1 p2) X.env)] := by rfl) (hpl : (backTo pos (starEach [.Tuple es x1 p2] X.env)).any (·.1) = false := by rfl) : EvD X (.Call (.Name "isinstance" p) [e, .Tuple es x1 p2] [] pos) Δ M k := fun F H σ Q hS ok post => by
  refine sem_of (pe_callB call_isiT hg hm (by decide +kernel) (pa_cons pe_sem (pa_cons (pe_tup pa_sem) pa_nil hs2) hs) (by decide) (by decide) hs hpl) ?_
  refine h F H σ _ hS ok fun d M1 F1 H1 v q st ok1 i => q F1 H1 σ _ (hS.mono st.ext) ok1 fun ds M2 F2 H2 vs ⟨s, ts, c, h1, h2, h3, h4, hk⟩ st2 ok2 i2 => ?_
  subst h2
  refine ⟨by rw [← i2.length, List.length_map]; exact h3, fun t ht => ?_⟩
  have ok3 := ok2.new (o := .tup vs) ht
  have iv : Is X.K (upd F2 t (.tup vs)) d v := (i.mono st2.ext).mono (same_new (ok2.fresh ht).1)
  exact ⟨v, t, vs, .type s, ts.map Value.type, c, rfl, upd_same, tys_of i2, ty_of ok3.1 h1 iv, ktAny_kit h4, (post.step ((st.trans st2).trans ok3.2)).here ok3.1 hk (is_bl.2 rfl)⟩
theorem ev_tyn (hg : Gl X x) (hm : X.mg x = none) (hv : bootBuiltins x = some (.type T)) (hn : x ≠ "__name__") (hdb : (x == ("__debug__" : Str)) = false) (h : k (.ty T) M) : EvD X (.Name x pos) Δ M k :=
  ev_c (pe_bltn (v := .ty T) hg hm hv rfl hn hdb) (fun _ => is_ty.2 rfl) h
end
end DL
end
section
set_option Elab.async false
set_option linter.all false
set_option maxRecDepth 100000
namespace DL
open PySem L2
section
variable {X : Cx} {a b e e2 o : Expr} {es rest : List Expr} {Δ : DS} {M : Store} {k : DK} {kb : BK} {ka : AK} {p pos apos : Pos} {x : Str}
/-! ### cells: append, pop, x[i] = v -/
abbrev FewOk (X : Cx) (cpos : Pos) (es : List Expr) : Prop := ((backTo cpos (starEach es X.env)).all (fun x => !x.1) && (backToKw cpos (keywordEach [] X.env)).all (fun x => x.1.isSome)
      && decide (es.length + ([] : List Keyword).length + (if ([] : List Keyword).isEmpty then 0 else 1) < 30)) = true
theorem cell_of {K : PySem.W.Frag} {F H : Hp} (ok : Ok K F M H) {q : Addr} {ds : List D} (h : M q = some (.lst ds)) : ∃ vs, H q = some (.lst vs) ∧ IsL K F ds vs := by
  obtain ⟨_, u, h1, vs, h2, h3⟩ := ok.mem q _ h
  subst h2
  exact ⟨vs, h1, h3⟩
theorem ev_append (h : EvD X o Δ M fun d M1 => ∃ q ds0, d = .cell q ∧ M1 q = some (.lst ds0) ∧ EvD X e Δ M1 fun y M2 => ∃ ds, M2 q = some (.lst ds) ∧ ds.length < sizeLine ∧ k .non (mup M2 q (.lst (ds ++ [y]))))
    (hbase : attributeBase o "append" X.env (eval o X.env) = eval o X.env := by rfl) (hfew : FewOk X pos [e] := by rfl) (hline : (apos.endLine == pos.line) = true := by rfl) (hs : starEach [e] X.env = [(false, eval e X.env)] := by rfl) :
    EvD X (.Call (.Attribute o "append" apos) [e] [] pos) Δ M k := fun F H σ Q hS ok post => by
  refine sem_of (pe_bm PySem.F.plainAttrs_list PySem.F.slot_list_append PySem.F.type_list_append mt_append pe_sem (pa_cons pe_sem pa_nil hs) hbase hfew hline hs rfl) ?_
  refine h F H σ _ hS ok fun d M1 F1 H1 v ⟨q, ds0, ed, hm, h2⟩ st ok1 i => ?_
  subst ed
  obtain ⟨vs0, hq0, _⟩ := cell_of ok1 hm
  rw [is_cell.1 i]
  refine ⟨.inl ⟨rfl, _, SqL.of hq0⟩, h2 F1 H1 σ _ (hS.mono st.ext) ok1 fun y M2 F2 H2 u ⟨ds, hm2, hl, hk⟩ st2 ok2 iu => ?_⟩
  obtain ⟨vs, hq, il⟩ := cell_of ok2 hm2
  exact ⟨q, vs, u, rfl, rfl, hq, by rw [← il.length]; exact hl, (post.step (st.trans st2)).cell ok2 hm2 (il.app (IsL.cons iu IsL.nil)) hk (is_non.2 rfl)⟩
theorem ev_popAt (h : EvD X o Δ M fun d M1 => ∃ q ds0, d = .cell q ∧ M1 q = some (.lst ds0) ∧ EvD X e Δ M1 fun y M2 => ∃ i ds j r, y = .int i ∧ M2 q = some (.lst ds) ∧ (-(2 ^ 63) ≤ i ∧ i < 2 ^ 63) ∧ seqIndex? i ds.length = some j ∧ ds[j]? = some r ∧ k r (mup M2 q (.lst (ds.eraseIdx j))))
    (hbase : attributeBase o "pop" X.env (eval o X.env) = eval o X.env := by rfl) (hfew : FewOk X pos [e] := by rfl) (hline : (apos.endLine == pos.line) = true := by rfl) (hs : starEach [e] X.env = [(false, eval e X.env)] := by rfl) :
    EvD X (.Call (.Attribute o "pop" apos) [e] [] pos) Δ M k := fun F H σ Q hS ok post => by
  refine sem_of (pe_bm PySem.F.plainAttrs_list PySem.F.slot_list_pop PySem.F.type_list_pop mt_popAt pe_sem (pa_cons pe_sem pa_nil hs) hbase hfew hline hs rfl) ?_
  refine h F H σ _ hS ok fun d M1 F1 H1 v ⟨q, ds0, ed, hm, h2⟩ st ok1 i => ?_
  subst ed
  obtain ⟨vs0, hq0, _⟩ := cell_of ok1 hm
  rw [is_cell.1 i]
  refine ⟨.inl ⟨rfl, _, SqL.of hq0⟩, h2 F1 H1 σ _ (hS.mono st.ext) ok1 fun y M2 F2 H2 u ⟨j, ds, n, r, ey, hm2, hb, hj, hr, hk⟩ st2 ok2 iu => ?_⟩
  subst ey
  obtain ⟨vs, hq, il⟩ := cell_of ok2 hm2
  obtain ⟨w, hw, iw⟩ := il.get hr
  rw [is_int.1 iu]
  exact ⟨q, vs, j, n, w, rfl, rfl, hq, hb.1, hb.2, by rw [← il.length]; exact hj, hw, (post.step (st.trans st2)).cell ok2 hm2 (il.erase n) hk iw⟩
/-! ### dicts -/
def keyOf : D → Option Key
  | .int i => some (.inl i)
  | .str x => some (.inr x)
  | _ => none
theorem key_is {K : PySem.W.Frag} {F : Hp} {d : D} {c : Key} {v : V} (h : keyOf d = some c) (i : Is K F d v) : v = kV c := by
  unfold keyOf at h
  split at h
  · cases h; exact is_int.1 i
  · cases h; exact is_str.1 i
  · cases h
def valD : List Key → List D → Key → Option D
  | c :: ks, d :: ds, q => if c = q then some d else valD ks ds q
  | _, _, _ => none
theorem val_is {K : PySem.W.Frag} {F : Hp} {q : Key} : ∀ {ks : List Key} {ds : List D} {vs : List V}, ks.length = ds.length → IsL K F ds vs → (∀ d, valD ks ds q = some d → ∃ v, valV (ks.zip vs) q = some v ∧ Is K F d v) ∧ (valD ks ds q = none → valV (ks.zip vs) q = none)
  | [], [], _, _, i => by
    rw [isL_nil.1 i]
    exact And.intro (fun d h => by unfold valD at h; cases h) (fun _ => rfl)
  | [], _ :: _, _, l, _ => by simp at l
  | _ :: _, [], _, l, _ => by simp at l
  | c :: ks, d :: ds, _, l, i => by
    obtain ⟨v, r, rfl, i1, i2⟩ := isL_cons.1 i
    have ih := val_is (q := q) (ks := ks) (ds := ds) (by simpa using l) i2
    unfold valD
    by_cases e : c = q
    · rw [if_pos e]
      have ev : valV ((c :: ks).zip (v :: r)) q = some v := by
        unfold valV
        rw [List.zip_cons_cons, List.find?_cons, decide_eq_true (show (c, v).1 = q from e)]
        rfl
      exact ⟨fun u h => by cases h; exact ⟨v, ev, i1⟩, fun h => by cases h⟩
    · rw [if_neg e]
      have ev : valV ((c :: ks).zip (v :: r)) q = valV (ks.zip r) q := by
        unfold valV
        rw [List.zip_cons_cons, List.find?_cons, decide_eq_false (show ¬ (c, v).1 = q from e)]
      rw [ev]
      exact ih
theorem dct_rd {K : PySem.W.Frag} {F H : Hp} (ok : Ok K F M H) {ks : List Key} {ds : List D} {v : V} (i : Is K F (.dct ks ds) v) : ∃ q vs, v = .ref q ∧ Rd H q (.dK (ks.zip vs)) ∧ ks.length = ds.length ∧ IsL K F ds vs := by
  obtain ⟨q, vs, od, e, h1, h2, h3⟩ := is_dct.1 i
  exact ⟨q, vs, e, ok.rd h1, h2, h3⟩
/-- d.get(k, x) -/
theorem ev_get2 (hu : X.A.units + 1 < cLine) (h : EvD X o Δ M fun d M1 => ∃ ks ds, d = .dct ks ds ∧ EvD X e Δ M1 fun d2 M2 => ∃ c, keyOf d2 = some c ∧ EvD X e2 Δ M2 fun d3 M3 => k ((valD ks ds c).getD d3) M3) (m : M2 X o "get" apos e e2 pos := by exact ⟨rfl, rfl, rfl, rfl⟩) :
    EvD X (.Call (.Attribute o "get" apos) [e, e2] [] pos) Δ M k := fun F H σ Q hS ok post => by
  refine sem_of (pe_dget2 hu pe_sem pe_sem pe_sem m) ?_
  refine h F H σ _ hS ok fun d M1 F1 H1 v ⟨ks, ds, ed, h2⟩ st ok1 i => ?_
  subst ed
  obtain ⟨q, vs, rfl, hq, hl, il⟩ := dct_rd ok1 i
  refine ⟨q, rfl, .inl ⟨_, hq⟩, h2 F1 H1 σ _ (hS.mono st.ext) ok1 fun d2 M2 F2 H2 y ⟨c, hc, h3⟩ st2 ok2 i2 => h3 F2 H2 σ _ ((hS.mono st.ext).mono st2.ext) ok2 fun d3 M3 F3 H3 z hk st3 ok3 i3 => ?_⟩
  obtain ⟨q', vs', e', hq', hl', il'⟩ := dct_rd ok3 ((i.mono st2.ext).mono st3.ext)
  cases e'
  have w := val_is (q := c) hl' il'
  refine ⟨valV (ks.zip vs') c, .inl ⟨_, c, hq', key_is hc i2, rfl⟩, ?_⟩
  have st' := (st.trans st2).trans st3
  cases hv : valD ks ds c with
  | some r =>
    obtain ⟨u, h1, h2⟩ := w.1 r hv
    rw [h1]
    rw [hv] at hk
    exact (post.step st').here ok3 hk h2
  | none =>
    rw [w.2 hv]
    rw [hv] at hk
    exact (post.step st').here ok3 hk i3
/-! ### iterables -/
structure ItRep (K : PySem.W.Frag) (J : It) (ds : List D) (F : Hp) (M : Store) (H : Hp) : Prop where
  go : ∀ i F' M' H', Stp F M H F' M' H' → Ok K F' M' H' → i < ds.length → J.go i H'
  yld : ∀ i F' M' H' v H2, Stp F M H F' M' H' → Ok K F' M' H' → i < ds.length → J.yld i H' v H2 → ∃ F2 d, ds[i]? = some d ∧ Stp F' M' H' F2 M' H2 ∧ Ok K F2 M' H2 ∧ Is K F2 d v
  stop : ∀ F' M' H', Stp F M H F' M' H' → Ok K F' M' H' → J.stop ds.length H'
def ItD (X : Cx) (tg e : Expr) (Δ : DS) (M : Store) (k : AK) : Prop := ∀ F H σ (R : It → Hp → Prop), IsS X.K F Δ σ → Ok X.K F M H → (∀ ds M' F' H' J, k ds M' → Stp F M H F' M' H' → Ok X.K F' M' H' → ItRep X.K J ds F' M' H' → R J H') → SemI X tg e σ H R
variable {tg : Expr}
theorem ItD.mono {kc : AK} (h : ItD X tg e Δ M ka) (hk : ∀ d M', ka d M' → kc d M') : ItD X tg e Δ M kc := fun F H σ R hs ok post => h F H σ R hs ok fun ds M' F' H' J q => post ds M' F' H' J (hk ds M' q)
theorem rep_list {K : PySem.W.Frag} {F H : Hp} {q : Addr} {vs : List V} {ds : List D} (hq : F q = some (.lst vs)) (il : IsL K F ds vs) : ItRep K (Itl K q) ds F M H where
  go := fun i F' M' H' st ok hi => ⟨vs, vs[i]'(by rw [← il.length]; exact hi), SqL.of (ok.lst (st.ext _ _ hq)), List.getElem?_eq_getElem _⟩
  yld := fun i F' M' H' v H2 st ok hi y => by
    obtain ⟨e, y⟩ := y
    subst e
    have g := y vs (SqL.of (ok.lst (st.ext _ _ hq)))
    obtain ⟨d, h1, h2⟩ := (il.mono st.ext).get' g
    exact ⟨F', d, h1, Stp.refl, ok, h2⟩
  stop := fun F' M' H' st ok => ⟨vs, SqL.of (ok.lst (st.ext _ _ hq)), by rw [il.length]; exact Nat.le_refl _⟩
theorem rep_frl {K : PySem.W.Frag} {F H : Hp} {q : Addr} {vs : List V} {ds : List D} (hq : SqL K F q vs) (il : IsL K F ds vs) : ItRep K (Itl K q) ds F M H where
  go := fun i F' M' H' st ok hi => ⟨vs, vs[i]'(by rw [← il.length]; exact hi), ok.sqL (st.ext.seq hq), List.getElem?_eq_getElem _⟩
  yld := fun i F' M' H' v H2 st ok hi y => by
    obtain ⟨e, y⟩ := y
    subst e
    have g := y vs (ok.sqL (st.ext.seq hq))
    obtain ⟨d, h1, h2⟩ := (il.mono st.ext).get' g
    exact ⟨F', d, h1, Stp.refl, ok, h2⟩
  stop := fun F' M' H' st ok => ⟨vs, ok.sqL (st.ext.seq hq), by rw [il.length]; exact Nat.le_refl _⟩
theorem rep_tup {K : PySem.W.Frag} {F H : Hp} {q : Addr} {vs : List V} {ds : List D} (hq : SqU K F q vs) (il : IsL K F ds vs) : ItRep K (Itt K q) ds F M H where
  go := fun i F' M' H' st ok hi => ⟨vs, vs[i]'(by rw [← il.length]; exact hi), ok.sqT (sqT_mono st.ext hq), List.getElem?_eq_getElem _⟩
  yld := fun i F' M' H' v H2 st ok hi y => by
    obtain ⟨e, y⟩ := y
    subst e
    have g := y vs (ok.sqT (sqT_mono st.ext hq))
    obtain ⟨d, h1, h2⟩ := (il.mono st.ext).get' g
    exact ⟨F', d, h1, Stp.refl, ok, h2⟩
  stop := fun F' M' H' st ok => ⟨vs, ok.sqT (sqT_mono st.ext hq), by rw [il.length]; exact Nat.le_refl _⟩
/-- ranges -/
def rngD (lo : Int) (n : Nat) : List D := (List.range n).map fun i => .int (lo + (i : Nat))
theorem rep_rng {K : PySem.W.Frag} {F H : Hp} {lo : Int} {n : Nat} : ItRep K (Itr lo n) (rngD lo n) F M H where
  go := fun i F' M' H' st ok hi => by
    unfold rngD at hi
    rw [List.length_map, List.length_range] at hi
    exact hi
  yld := fun i F' M' H' v H2 st ok hi y => by
    obtain ⟨e, y⟩ := y
    subst e y
    unfold rngD at hi ⊢
    rw [List.length_map, List.length_range] at hi
    refine ⟨F', .int (lo + i), ?_, Stp.refl, ok, is_int.2 rfl⟩
    rw [List.getElem?_map, List.getElem?_range hi]
    rfl
  stop := fun F' M' H' st ok => by
    unfold rngD
    rw [List.length_map, List.length_range]
    exact Nat.le_refl _
theorem it_range1 (hg : Gl X "range") (hm : X.mg "range" = none) (h : EvD X e Δ M fun d M1 => ∃ j : Int, d = .int j ∧ (-(2 ^ 62) ≤ j ∧ j < 2 ^ 62) ∧ ka (rngD 0 j.toNat) M1) (hs : starEach [e] X.env = [(false, eval e X.env)] := by rfl) : ItD X tg (.Call (.Name "range" p) [e] [] pos) Δ M ka := fun F H σ R hS ok post =>
  semI_of (pi_range1 hg hm (pa_cons pe_sem pa_nil hs) hs) (h F H σ _ hS ok fun d M1 F1 H1 v ⟨j, ed, hb, hk⟩ st ok1 i => by
    subst ed
    exact ⟨j, by rw [is_int.1 i], hb.1, hb.2, post _ M1 F1 H1 _ hk st ok1 rep_rng⟩)
/-- the signs of a text -/
def signs (z : Str) : List D := z.cps.toList.map fun c => .str ⟨#[c]⟩
theorem rep_str {K : PySem.W.Frag} {F H : Hp} {z : Str} : ItRep K (Its z) (signs z) F M H where
  go := fun i F' M' H' st ok hi => by
    unfold signs at hi
    rw [List.length_map, Array.length_toList] at hi
    exact hi
  yld := fun i F' M' H' v H2 st ok hi y => by
    obtain ⟨e, c, hc, y⟩ := y
    subst e y
    refine ⟨F', .str ⟨#[c]⟩, ?_, Stp.refl, ok, is_str.2 rfl⟩
    unfold signs
    rw [List.getElem?_map, Array.getElem?_toList, hc]
    rfl
  stop := fun F' M' H' st ok => by
    unfold signs
    rw [List.length_map, Array.length_toList]
    exact Nat.le_refl _
/-- enumerate of a list -/
def enumD (ds : List D) : List D := ds.zipIdx.map fun q => .tup [.int (q.2 : Nat), q.1]
theorem enumD_len (ds : List D) : (enumD ds).length = ds.length := by unfold enumD; rw [List.length_map, List.length_zipIdx]
theorem enumD_get {ds : List D} {i : Nat} {d : D} (h : ds[i]? = some d) : (enumD ds)[i]? = some (.tup [.int (i : Nat), d]) := by
  unfold enumD
  rw [List.getElem?_map, List.getElem?_zipIdx, h]
  simp
theorem pair_new {K : PySem.W.Frag} {F H : Hp} (ok : Ok K F M H) {d1 d2 : D} {x y : V} (i1 : Is K F d1 x) (i2 : Is K F d2 y) {T : Addr} (hT : H T = none) {ob : Obj} (hd : ob.dict = none) :
    Stp F M H (upd F T (.frz ob (.tup [x, y]))) M (upd H T (.frz ob (.tup [x, y]))) ∧ Ok K (upd F T (.frz ob (.tup [x, y]))) M (upd H T (.frz ob (.tup [x, y]))) ∧ Is K (upd F T (.frz ob (.tup [x, y]))) (.tup [d1, d2]) (.ref T) :=
  ⟨(ok.new hT).2, (ok.new hT).1, tup_new hd (IsL.cons i1 (IsL.cons i2 IsL.nil)) (ok.fresh hT).1⟩
theorem rep_enum {K : PySem.W.Frag} {F H : Hp} {q : Addr} {vs : List V} {ds : List D} (hq : SqL K F q vs) (il : IsL K F ds vs) : ItRep K (IteB K q) (enumD ds) F M H where
  go := fun i F' M' H' st ok hi => ⟨vs, vs[i]'(by rw [← il.length, ← enumD_len]; exact hi), ok.sqL (st.ext.seq hq), List.getElem?_eq_getElem _⟩
  yld := fun i F' M' H' v H2 st ok hi y => by
    obtain ⟨T, ob, _, rfl, hT, hd, rfl, u, rfl, y⟩ := y
    obtain ⟨d, h1, h2⟩ := (il.mono st.ext).get' (y vs (ok.sqL (st.ext.seq hq)))
    have n := pair_new ok (is_int.2 rfl : Is K F' (.int (i : Nat)) _) h2 hT hd
    exact ⟨_, _, enumD_get h1, n.1, n.2.1, n.2.2⟩
  stop := fun F' M' H' st ok => ⟨vs, ok.sqL (st.ext.seq hq), by rw [enumD_len, il.length]; exact Nat.le_refl _⟩
variable {elts : List Expr} {kk : Nat} {tpos : Pos}
/-- zip of two lists, of two tuples -/
def zipD (ds es : List D) : List D := (ds.zip es).map fun q => .tup [q.1, q.2]
theorem zipD_len (ds es : List D) : (zipD ds es).length = min ds.length es.length := by unfold zipD; rw [List.length_map, List.length_zip]
theorem zipD_get {ds es : List D} {i : Nat} {d c : D} (h : ds[i]? = some d) (h2 : es[i]? = some c) : (zipD ds es)[i]? = some (.tup [d, c]) := by
  unfold zipD
  have z : (ds.zip es)[i]? = some (d, c) := List.getElem?_zip_eq_some.mpr ⟨h, h2⟩
  rw [List.getElem?_map, z]
  rfl
theorem rep_zip {K : PySem.W.Frag} {F H : Hp} {q t : Addr} {vs ws : List V} {ds es : List D} (hq : SqL K F q vs) (il : IsL K F ds vs) (ht : SqL K F t ws) (jl : IsL K F es ws) : ItRep K (ItzB K q t) (zipD ds es) F M H where
  go := fun i F' M' H' st ok hi => by
    rw [zipD_len] at hi
    exact ⟨vs, ws, vs[i]'(by rw [← il.length]; omega), ws[i]'(by rw [← jl.length]; omega), ok.sqL (st.ext.seq hq), ok.sqL (st.ext.seq ht), List.getElem?_eq_getElem _, List.getElem?_eq_getElem _⟩
  yld := fun i F' M' H' v H2 st ok hi y => by
    obtain ⟨T, ob, _, rfl, hT, hd, rfl, u, w, rfl, y, z⟩ := y
    obtain ⟨d, h1, h2⟩ := (il.mono st.ext).get' (y vs (ok.sqL (st.ext.seq hq)))
    obtain ⟨c, h3, h4⟩ := (jl.mono st.ext).get' (z ws (ok.sqL (st.ext.seq ht)))
    have n := pair_new ok h2 h4 hT hd
    exact ⟨_, _, zipD_get h1 h3, n.1, n.2.1, n.2.2⟩
  stop := fun F' M' H' st ok => ⟨vs, ws, ok.sqL (st.ext.seq hq), ok.sqL (st.ext.seq ht), by rw [zipD_len, ← il.length, ← jl.length]; omega⟩
theorem rep_zipT {K : PySem.W.Frag} {F H : Hp} {q t : Addr} {vs ws : List V} {ds es : List D} (hq : SqU K F q vs) (il : IsL K F ds vs) (ht : SqU K F t ws) (jl : IsL K F es ws) : ItRep K (ItzTB K q t) (zipD ds es) F M H where
  go := fun i F' M' H' st ok hi => by
    rw [zipD_len] at hi
    exact ⟨vs, ws, vs[i]'(by rw [← il.length]; omega), ws[i]'(by rw [← jl.length]; omega), ok.sqT (sqT_mono st.ext hq), ok.sqT (sqT_mono st.ext ht), List.getElem?_eq_getElem _, List.getElem?_eq_getElem _⟩
  yld := fun i F' M' H' v H2 st ok hi y => by
    obtain ⟨T, ob, _, rfl, hT, hd, rfl, u, w, rfl, y, z⟩ := y
    obtain ⟨d, h1, h2⟩ := (il.mono st.ext).get' (y vs (ok.sqT (sqT_mono st.ext hq)))
    obtain ⟨c, h3, h4⟩ := (jl.mono st.ext).get' (z ws (ok.sqT (sqT_mono st.ext ht)))
    have n := pair_new ok h2 h4 hT hd
    exact ⟨_, _, zipD_get h1 h3, n.1, n.2.1, n.2.2⟩
  stop := fun F' M' H' st ok => ⟨vs, ws, ok.sqT (sqT_mono st.ext hq), ok.sqT (sqT_mono st.ext ht), by rw [zipD_len, ← il.length, ← jl.length]; omega⟩
theorem it_zip (hg : Gl X "zip") (hm : X.mg "zip" = none) (h : EvD X e Δ M fun d M1 => EvD X e2 Δ M1 fun d2 M2 => ∃ ds es, ((d = .lst ds ∧ d2 = .lst es) ∨ (d = .tup ds ∧ d2 = .tup es)) ∧ ka (zipD ds es) M2) (hs : starEach [e, e2] X.env = (false, eval e X.env) :: starEach [e2] X.env := by rfl) (hs2 : starEach [e2] X.env = [(false, eval e2 X.env)] := by rfl) (hpl : (backTo pos (starEach [e2] X.env)).any (·.1) = false := by rfl) : ItD X (.Tuple elts kk tpos) (.Call (.Name "zip" p) [e, e2] [] pos) Δ M ka := fun F H σ R hS ok post =>
  semI_of (pi_zipB hg hm (pa_cons pe_sem (pa_cons pe_sem pa_nil hs2) hs) hs hpl) (two h hS ok fun d1 d2 M' F' H' u y ⟨ds, es, ed, hk⟩ st ok' i1 i2 => by
    rcases ed with ⟨e1, e2⟩ | ⟨e1, e2⟩
    · subst e1 e2
      obtain ⟨q, vs, rfl, hq, il⟩ := is_lst.1 i1
      obtain ⟨t, ws, rfl, ht, jl⟩ := is_lst.1 i2
      exact ⟨q, t, vs, ws, rfl, .inl ⟨SqL.of (ok'.lst hq), SqL.of (ok'.lst ht), post _ M' F' H' _ hk st ok' (rep_zip (SqL.of hq) il (SqL.of ht) jl)⟩⟩
    · subst e1 e2
      obtain ⟨q, vs, rfl, hq, il⟩ := is_tup.1 i1
      obtain ⟨t, ws, rfl, ht, jl⟩ := is_tup.1 i2
      exact ⟨q, t, vs, ws, rfl, .inr ⟨ok'.sqT hq, ok'.sqT ht, post _ M' F' H' _ hk st ok' (rep_zipT hq il ht jl)⟩⟩)
end
end DL
end
section
set_option Elab.async false
set_option linter.all false
set_option maxRecDepth 100000
namespace DL
open PySem L2
/-! ### targets -/
theorem wipe_set_out {σ : L2.St} {i : Nat} {x : Option V} : ∀ {vs : List Nat}, i ∉ vs → wipe (σ.set i x) vs = (wipe σ vs).set i x
  | [], _ => rfl
  | v :: vs, h => by
    have h1 : i ≠ v := fun z => h (by rw [z]; exact List.mem_cons_self)
    have h2 : i ∉ vs := fun z => h (List.mem_cons_of_mem _ z)
    unfold wipe
    rw [wipe_set_out h2, List.set_comm _ _ h1]
theorem wipe_set {σ : L2.St} {i : Nat} {x : Option V} : ∀ {vs : List Nat}, i ∈ vs → wipe (σ.set i x) vs = wipe σ vs
  | [], h => by cases h
  | v :: vs, h => by
    unfold wipe
    by_cases z : i ∈ vs
    · rw [wipe_set z]
    · have e : i = v := by
        rcases List.mem_cons.mp h with e | e
        · exact e
        · exact absurd e z
      subst e
      rw [wipe_set_out z, List.set_set]
def wipeD (Δ : DS) : List Nat → DS
  | [] => Δ
  | v :: vs => (wipeD Δ vs).set v none
theorem IsS.none {K : PySem.W.Frag} {F : Hp} {Δ : DS} {σ : L2.St} (h : IsS K F Δ σ) (i : Nat) : IsS K F (Δ.set i none) (σ.set i none) := by
  refine ⟨by rw [List.length_set, List.length_set]; exact h.1, fun j e q => ?_⟩
  by_cases z : j = i
  · subst z
    have hj : j < Δ.length := by
      by_cases hj : j < Δ.length
      · exact hj
      · rw [List.getElem?_eq_none (by rw [List.length_set]; omega)] at q; cases q
    rw [List.getElem?_set_self hj] at q
    cases q
  · rw [List.getElem?_set_ne (Ne.symm z)] at q ⊢
    exact h.2 j e q
theorem IsS.wipe {K : PySem.W.Frag} {F : Hp} {Δ : DS} {σ : L2.St} (h : IsS K F Δ σ) : ∀ vs : List Nat, IsS K F (wipeD Δ vs) (L2.wipe σ vs)
  | [] => h
  | v :: vs => (IsS.wipe h vs).none v
def GdD (X : Cx) (tg : Expr) (d : D) (Δ Δ' : DS) (sl : List Nat) : Prop := ∀ F M H σ v (Q : L2.St → Hp → Prop), IsS X.K F Δ σ → Ok X.K F M H → Is X.K F d v →
  (∀ σ', IsS X.K F Δ' σ' → (∀ vs : List Nat, (∀ j ∈ sl, j ∈ vs) → wipe σ' vs = wipe σ vs) → Q σ' H) → SemG X tg v σ H Q
def GdsD (X : Cx) (tgs : List Expr) (ds : List D) (Δ Δ' : DS) (sl : List Nat) : Prop := ∃ t, PGs X tgs t ∧ ∀ F M H σ vs (Q : L2.St → Hp → Prop), IsS X.K F Δ σ → Ok X.K F M H → IsL X.K F ds vs →
  (∀ σ', IsS X.K F Δ' σ' → (∀ vs : List Nat, (∀ j ∈ sl, j ∈ vs) → wipe σ' vs = wipe σ vs) → Q σ' H) → t vs σ H Q
section
variable {X : Cx} {a b e e2 o tg tg2 : Expr} {es tgs : List Expr} {Δ Δ1 Δ2 : DS} {M : Store} {k : DK} {kb : BK} {ka : AK} {ks : KS} {p pos apos : Pos} {x : Str} {d d1 d2 : D} {sl sl2 : List Nat}
theorem gd_name {i : Nat} (hN : X.N.Nodup) (hi : X.N[i]? = some x) (hx : Loc X.env.scope x) (hf : X.fn x = true ∨ X.env.scope.names.lookup x = some .local) : GdD X (.Name x pos) d Δ (Δ.set i (some d)) [i] := fun F M H σ v Q hS ok iv h =>
  semG_of (pg_name hN hi hx hf) (h _ (hS.set i iv) fun vs hv => wipe_set (hv i (by simp)))
theorem gds_nil : GdsD X [] [] Δ Δ [] := ⟨_, pgs_nil, fun F M H σ vs Q hS ok il h => ⟨isL_nil.1 il, h σ hS fun _ _ => rfl⟩⟩
theorem gds_cons {ds : List D} (h1 : GdD X tg d Δ Δ1 sl) (h2 : GdsD X tgs ds Δ1 Δ2 sl2) (hs : (assignEach (tg :: tgs) X.env).map (·.2) = assign tg X.env :: (assignEach tgs X.env).map (·.2) := by rfl) : GdsD X (tg :: tgs) (d :: ds) Δ Δ2 (sl ++ sl2) := by
  obtain ⟨t, ht, q⟩ := h2
  refine ⟨_, pgs_cons pg_sem ht hs, fun F M H σ vs Q hS ok il h => ?_⟩
  obtain ⟨v, r, rfl, i1, i2⟩ := isL_cons.1 il
  exact ⟨v, r, rfl, h1 F M H σ v _ hS ok i1 fun σ1 hS1 w1 => q F M H σ1 r Q hS1 ok i2 fun σ2 hS2 w2 => h σ2 hS2 fun vs hv =>
    (w2 vs fun j hj => hv j (List.mem_append_right _ hj)).trans (w1 vs fun j hj => hv j (List.mem_append_left _ hj))⟩
theorem gd_tup {n : Nat} {ds : List D} {kt : Nat} (hc : X.calm = true) (h : GdsD X tgs ds Δ Δ1 sl) (hl : ds.length = n) (hn : (assignEach tgs X.env).length = n := by rfl) (hst : (assignEach tgs X.env).findIdx? (·.1) = none := by rfl) : GdD X (.Tuple tgs kt pos) (.tup ds) Δ Δ1 sl := by
  obtain ⟨t, ht, q⟩ := h
  refine fun F M H σ v Q hS ok iv h => semG_of (pg_tup hc ht hn hst) ?_
  obtain ⟨a, vs, e, hq, il⟩ := is_tup.1 iv
  exact ⟨a, vs, e, ok.sqT hq, by rw [← il.length]; exact hl, q F M H σ vs Q hS ok il h⟩
theorem gd_lst {n : Nat} {ds : List D} {kt : Nat} (hc : X.calm = true) (h : GdsD X tgs ds Δ Δ1 sl) (hl : ds.length = n) (hn : (assignEach tgs X.env).length = n := by rfl) (hst : (assignEach tgs X.env).findIdx? (·.1) = none := by rfl) : GdD X (.Tuple tgs kt pos) (.lst ds) Δ Δ1 sl := by
  obtain ⟨t, ht, q⟩ := h
  refine fun F M H σ v Q hS ok iv h => semG_of (pg_lst hc ht hn hst) ?_
  obtain ⟨a, vs, e, hq, il⟩ := is_lst.1 iv
  exact ⟨a, vs, e, SqL.of (ok.lst hq), by rw [← il.length]; exact hl, q F M H σ vs Q hS ok il h⟩
/-! ### comprehensions -/
/-- the tests of a clause -/
def TsD (X : Cx) (ifs : List Expr) (Δ : DS) (M : Store) (k : BK) : Prop := match ifs with
  | [] => k true M
  | [c] => TeD X c Δ M k
  | _ => False
abbrev Blk (X : Cx) (scope : Scope) (s : Shared) (H : Hp) (C : Addr) (cl : List (Str × Addr)) (fp : List Addr) : Cx := X.blk s H scope (compEnvC scope cl C X.env) fp
/-- one turn's body, in whatever frame -/
def tBlkG (X : Cx) (scope : Scope) (tg : Expr) : TG := fun v σ H Q => ∀ s H0 C cl fp, SemG (Blk X scope s H0 C cl fp) tg v σ H Q
def tBlkE (X : Cx) (scope : Scope) (e : Expr) : TE := fun σ H Q => ∀ s H0 C cl fp, Sem (Blk X scope s H0 C cl fp) e σ H Q
def tBlkT (X : Cx) (scope : Scope) (ifs : List Expr) : TT := match ifs with
  | [] => tYes
  | [c] => fun σ H Q => ∀ s H0 C cl fp, SemT (Blk X scope s H0 C cl fp) c σ H Q
  | _ => fun _ _ _ => False
theorem ptsB {scope : Scope} {ifs : List Expr} (s : Shared) (H0 : Hp) (C : Addr) (cl : List (Str × Addr)) (fp : List Addr) (h : ifs.length ≤ 1) : PTs (Blk X scope s H0 C cl fp) ifs (tBlkT X scope ifs) := by
  match ifs, h with
  | [], _ => exact pts_nil
  | [c], _ => exact pts_one ⟨fun pins s' σ H Q I h => h s H0 C cl fp pins s' I⟩
theorem pgB {scope : Scope} (s : Shared) (H0 : Hp) (C : Addr) (cl : List (Str × Addr)) (fp : List Addr) : PG (Blk X scope s H0 C cl fp) tg (tBlkG X scope tg) := ⟨fun pins s' σ H v u Q I r h => h s H0 C cl fp pins s' u I r⟩
theorem peB {scope : Scope} (s : Shared) (H0 : Hp) (C : Addr) (cl : List (Str × Addr)) (fp : List Addr) : PE (Blk X scope s H0 C cl fp) e (tBlkE X scope e) := ⟨fun pins s' σ H Q I h => h s H0 C cl fp pins s' I⟩
/-- what a list comprehension asks, of the items -/
def LcQ (X : Cx) (scope : Scope) (elt tg : Expr) (ifs : List Expr) (vs : List Nat) (Δ : DS) (k : AK) : AK := fun ds M1 => ∃ I : Nat → List D → Store → Prop, I 0 [] M1 ∧
    (∀ i d acc M', ds[i]? = some d → I i acc M' → acc.length < sizeLine ∧ ∃ Δ1 sl, (∀ j ∈ sl, j ∈ vs) ∧ (∀ s H C cl fp, GdD (Blk X scope s H C cl fp) tg d (wipeD Δ vs) Δ1 sl) ∧
      ∃ kb : BK, (∀ s H C cl fp, TsD (Blk X scope s H C cl fp) ifs Δ1 M' kb) ∧
        ∀ c M2, kb c M2 → if c = true then ∃ ke : DK, (∀ s H C cl fp, EvD (Blk X scope s H C cl fp) elt Δ1 M2 ke) ∧ ∀ r M3, ke r M3 → I (i + 1) (acc ++ [r]) M3 else I (i + 1) acc M2) ∧
    (∀ acc M', I ds.length acc M' → k acc M')
def LcP (X : Cx) (scope : Scope) (elt tg iter : Expr) (ifs : List Expr) (vs : List Nat) (Δ : DS) (M : Store) (k : AK) : Prop := ItD X tg iter Δ M (LcQ X scope elt tg ifs vs Δ k)
/-- .. for any way to walk the items -/
theorem lc_gen {scope : Scope} {elt : Expr} {ifs : List Expr} {vs : List Nat} {wi : TI} {F H : Hp} {σ : L2.St} {Q : VK}
    (hw : ∀ R : It → Hp → Prop, (∀ ds M' F' H' J, LcQ X scope elt tg ifs vs Δ ka ds M' → Stp F M H F' M' H' → Ok X.K F' M' H' → ItRep X.K J ds F' M' H' → R J H') → wi σ H R) (hS : IsS X.K F Δ σ) (ok : Ok X.K F M H) (post : PostL X.K F M H ka Q) :
    tLc wi (tBlkG X scope tg) (tBlkT X scope ifs) (tBlkE X scope elt) vs σ H Q := by
  refine hw _ fun ds M1 F1 H1 J ⟨I, h0, hstep, hend⟩ st ok1 rep => ?_
  intro q hq
  have hq0 : H q = none := by
    cases z : H q with
    | none => rfl
    | some u => exact absurd hq (st.there q (by rw [z]; simp))
  refine ⟨fun i m H' => ∃ M' F' acc us, m = ds.length - i ∧ i ≤ ds.length ∧ Stp F1 M1 H1 F' M' H' ∧ Ok X.K F' M' H' ∧ F' q = none ∧ M' q = none ∧ H' q = some (.lst us) ∧ IsL X.K F' acc us ∧ I i acc M',
    ⟨ds.length, M1, F1, [], [], rfl, Nat.zero_le _, ?_, ?_, (ok1.fresh hq).1, (ok1.fresh hq).2, upd_same, IsL.nil, h0⟩, ?_⟩
  · refine ⟨Same.refl _, fun a u e => .inl e, fun a u e _ => ?_, fun a m _ => m, fun a n => ?_⟩
    · rw [upd_ne (ne_of_none e hq)]; exact e
    · by_cases z : a = q
      · subst z; exact absurd hq n
      · rw [upd_ne z]; exact n
  · refine ⟨fun a u e => ?_, fun a m e => ?_⟩
    · have z : a ≠ q := fun z => by rw [z, (ok1.fresh hq).1] at e; cases e
      rw [upd_ne z]; exact ok1.sub a u e
    · have z : a ≠ q := fun z => by rw [z, (ok1.fresh hq).2] at e; cases e
      obtain ⟨g1, u, g2, g3⟩ := ok1.mem a m e
      exact ⟨g1, u, by rw [upd_ne z]; exact g2, g3⟩
  · rintro i m H' ⟨M', F', acc, us, rfl, hi, st', ok', fF, fM, hL, il, hI⟩
    by_cases hlt : i < ds.length
    · refine .inr ⟨rep.go i F' M' H' st' ok' hlt, fun H2 => ∃ M2 F2 acc us, Stp F1 M1 H1 F2 M2 H2 ∧ Ok X.K F2 M2 H2 ∧ F2 q = none ∧ M2 q = none ∧ H2 q = some (.lst us) ∧ IsL X.K F2 acc us ∧ I (i + 1) acc M2,
        fun H2 ⟨M2, F2, acc, us, a1, a2, a3, a4, a5, a6, a7⟩ => ⟨ds.length - (i + 1), by omega, M2, F2, acc, us, rfl, hlt, a1, a2, a3, a4, a5, a6, a7⟩, fun v H2 y => ?_⟩
      obtain ⟨F2, d, hd, st2, ok2, iv⟩ := rep.yld i F' M' H' v H2 st' ok' hlt y
      obtain ⟨hlen, Δ1, sl, hsl, hg, kb, ht, hb⟩ := hstep i d acc M' hd hI
      have hS2 : IsS X.K F2 (wipeD Δ vs) (wipe σ vs) := (hS.mono ((st.trans st').trans st2).ext).wipe vs
      -- the fresh list stays put along a step
      have stay : ∀ {F3 M3 H3}, Stp F' M' H' F3 M3 H3 → F3 q = none ∧ M3 q = none ∧ H3 q = some (.lst us) := fun {F3 M3 H3} s3 => by
        refine ⟨?_, s3.dom q fM (by rw [hL]; simp), s3.keep q _ hL fM⟩
        cases z : F3 q with
        | none => rfl
        | some u =>
          rcases s3.new q u z with w | w | w
          · rw [fF] at w; cases w
          · rw [hL] at w; cases w
          · exact absurd fM w
      intro s0 H0 C cl fp
      refine hg s0 H0 C cl fp F2 M' H2 _ v _ hS2 ok2 iv fun σ2 hSσ hw => ⟨?_, ?_⟩
      · rw [hw vs hsl]
        have ww : ∀ l : List Nat, (∀ j ∈ l, j ∈ vs) → wipe (wipe σ l) vs = wipe σ vs := fun l => by
          induction l with
          | nil => intro _; rfl
          | cons j l ih =>
            intro hl
            show wipe ((wipe σ l).set j none) vs = _
            rw [wipe_set (hl j (by simp)), ih fun j hj => hl j (List.mem_cons_of_mem _ hj)]
        exact ww vs fun j hj => hj
      · have after : ∀ c M3 F3 H3, kb c M3 → Stp F2 M' H2 F3 M3 H3 → Ok X.K F3 M3 H3 → (if c = true then tBlkE X scope elt σ2 H3 fun y H4 => ∃ acc, H4 q = some (.lst acc) ∧ acc.length < sizeLine ∧ (∃ M2 F2 acc' us, Stp F1 M1 H1 F2 M2 (upd H4 q (.lst (acc ++ [y]))) ∧ Ok X.K F2 M2 (upd H4 q (.lst (acc ++ [y]))) ∧ F2 q = none ∧ M2 q = none ∧ (upd H4 q (.lst (acc ++ [y]))) q = some (.lst us) ∧ IsL X.K F2 acc' us ∧ I (i + 1) acc' M2) else (∃ M2 F2 acc us, Stp F1 M1 H1 F2 M2 H3 ∧ Ok X.K F2 M2 H3 ∧ F2 q = none ∧ M2 q = none ∧ H3 q = some (.lst us) ∧ IsL X.K F2 acc us ∧ I (i + 1) acc M2)) := fun c M3 F3 H3 kc s3 ok3 => by
          have hbc := hb c M3 kc
          have s23 := st2.trans s3
          cases c with
          | true =>
            rw [if_pos rfl] at hbc ⊢
            obtain ⟨ke, hev, hke⟩ := hbc
            intro s1 H9 C9 cl9 fp9
            refine hev s1 H9 C9 cl9 fp9 F3 H3 σ2 _ (hSσ.mono s3.ext) ok3 fun r M4 F4 H4 u kr s4 ok4 ir => ?_
            have s24 := s23.trans s4
            obtain ⟨b1, b2, b3⟩ := stay s24
            have l1 := (il.mono s24.ext)
            refine ⟨us, b3, by rw [← il.length]; exact hlen, M4, F4, acc ++ [r], us ++ [u], ?_, ?_, b1, b2, upd_same, l1.app (IsL.cons ir IsL.nil), hke r M4 kr⟩
            · have s14 := st'.trans s24
              refine ⟨s14.ext, s14.new, fun a w e m => ?_, s14.dom, fun a n => ?_⟩
              · rw [upd_ne (ne_of_none e hq)]; exact s14.keep a w e m
              · by_cases z : a = q
                · subst z; exact absurd hq n
                · rw [upd_ne z]; exact s14.there a n
            · refine ⟨fun a w e => ?_, fun a m e => ?_⟩
              · have z : a ≠ q := fun z => by rw [z, b1] at e; cases e
                rw [upd_ne z]; exact ok4.sub a w e
              · have z : a ≠ q := fun z => by rw [z, b2] at e; cases e
                obtain ⟨g1, w, g2, g3⟩ := ok4.mem a m e
                exact ⟨g1, w, by rw [upd_ne z]; exact g2, g3⟩
          | false =>
            rw [if_neg Bool.false_ne_true] at hbc ⊢
            obtain ⟨b1, b2, b3⟩ := stay s23
            exact ⟨M3, F3, acc, us, st'.trans s23, ok3, b1, b2, b3, il.mono s23.ext, hbc⟩
        match ifs, ht with
        | [], ht => exact after true M' F2 H2 (ht s0 H0 C cl fp) Stp.refl ok2
        | [c], ht =>
          intro s1 H9 C9 cl9 fp9
          exact ht s1 H9 C9 cl9 fp9 F2 H2 σ2 _ hSσ ok2 fun c M3 F3 H3 kc s3 ok3 => after c M3 F3 H3 kc s3 ok3
        | c :: c2 :: r, ht => exact (ht s0 H0 C cl fp).elim
    · have e : i = ds.length := by omega
      subst e
      refine .inl ⟨rep.stop F' M' H' st' ok', ?_⟩
      exact post acc M' F' H' q us (hend acc M' hI) (st.trans st') ok' fF fM hq0 hL il
theorem lc_read {scope : Scope} {elt iter : Expr} {ifs : List Expr} {vs : List Nat} (h : LcP X scope elt tg iter ifs vs Δ M ka) {F H : Hp} {σ : L2.St} {Q : VK} (hS : IsS X.K F Δ σ) (ok : Ok X.K F M H) (post : PostL X.K F M H ka Q) :
    tLc (SemI X tg iter) (tBlkG X scope tg) (tBlkT X scope ifs) (tBlkE X scope elt) vs σ H Q := lc_gen (fun R hR => h F H σ R hS ok hR) hS ok post
theorem el_lc {scope : Scope} {own : List (Str × Nat)} {elt iter : Expr} {ifs : List Expr} (hc : X.calm = true) (hN : X.N.Nodup) (ok : BlkOk X.N X.env.scope scope own) (hl : ifs.length ≤ 1) (h : LcP X scope elt tg iter ifs (own.map (·.2)) Δ M ka)
    (hs : ∀ x, foldedSetIterable iter X.env x = pure x := by intro _; rfl) : EvL X (.ListComp elt [⟨tg, iter, ifs, 0⟩] scope pos) Δ M ka := fun F H σ Q hS okk post =>
  sem_of (pe_lc hc hN pi_sem ok (fun s H C cl fp => pgB s H C cl fp) (fun s H C cl fp => ptsB s H C cl fp hl) (fun s H C cl fp => peB s H C cl fp) hs) (lc_read h hS okk post)
end
end DL
end
section
set_option Elab.async false
set_option linter.all false
set_option maxRecDepth 100000
namespace DL
open PySem L2
section
variable {X : Cx} {a b e e2 o tg tg2 : Expr} {es tgs : List Expr} {Δ Δ1 Δ2 : DS} {M : Store} {k : DK} {kb : BK} {ka : AK} {ks : KS} {p pos apos : Pos} {x : Str} {d d1 d2 : D} {sl sl2 : List Nat} {st : Stmt} {sts body : List Stmt}
/-! ### blocks -/
theorem ss_nil (h : ks.nx Δ M) : SsD X [] Δ M ks := fun F H σ Q hS ok post => semSs_of pss_nil (post.nx Δ M F H σ h Stp.refl ok hS)
theorem ss_cons (h : StD X st Δ M { ks with nx := fun Δ1 M1 => SsD X sts Δ1 M1 ks }) : SsD X (st :: sts) Δ M ks := fun F H σ Q hS ok post =>
  semSs_of (pss_cons ps_sem pss_sem) (h F H σ _ hS ok ⟨fun Δ' M' F' H' σ' q s' ok' hS' => q F' H' σ' Q hS' ok' (post.step s'), post.rt, post.bk, post.ct⟩)
theorem ss_one (h : StD X st Δ M ks) : SsD X [st] Δ M ks := fun F H σ Q hS ok post => semSs_of (pss_one ps_sem) (h F H σ Q hS ok post)
theorem s_expr (h : EvD X e Δ M fun _ M1 => ks.nx Δ M1) (hs : swapsWith e none pos.line X.env = pure false := by rfl) : StD X (.Expr e pos) Δ M ks := fun F H σ Q hS ok post =>
  semS_of (ps_expr pe_sem hs) (h F H σ _ hS ok fun d M1 F1 H1 v q s1 ok1 i => post.nx Δ M1 F1 H1 σ q s1 ok1 (hS.mono s1.ext))
theorem s_ret (h : EvD X e Δ M ks.rt) : StD X (.Return (some e) pos) Δ M ks := fun F H σ Q hS ok post => semS_of (ps_ret pe_sem) (h F H σ _ hS ok post.rt)
theorem s_if {c : Expr} {A B : List Stmt} (h : TeD X c Δ M fun t M1 => if t = true then SsD X A Δ M1 ks else SsD X B Δ M1 ks) : StD X (.If c A B pos) Δ M ks := fun F H σ Q hS ok post =>
  semS_of (ps_if pt_sem pss_sem pss_sem) (h F H σ _ hS ok fun t M1 F1 H1 q s1 ok1 => by
    cases t with
    | true => exact q F1 H1 σ Q (hS.mono s1.ext) ok1 (post.step s1)
    | false => exact q F1 H1 σ Q (hS.mono s1.ext) ok1 (post.step s1))
theorem s_set {i : Nat} {pos' : Pos} (hN : X.N.Nodup) (hi : X.N[i]? = some x) (hx : Loc X.env.scope x) (hf : X.fn x = true ∨ X.env.scope.names.lookup x = some .local) (h : EvD X e Δ M fun d M1 => ks.nx (Δ.set i (some d)) M1)
    (hs : swapsWith e (some (.Name x pos')) pos.line X.env = pure false := by rfl) : StD X (.Assign [.Name x pos'] e pos) Δ M ks := fun F H σ Q hS ok post =>
  semS_of (ps_set hN hi hx pe_sem hs hf) (h F H σ _ hS ok fun d M1 F1 H1 v q s1 ok1 i1 => post.nx _ M1 F1 H1 _ q s1 ok1 ((hS.mono s1.ext).set i i1))
/-- x = [..], the comprehension's own way -/
theorem s_setLc {i : Nat} {y : Str} {py spos : Pos} {scope : Scope} {own : List (Str × Nat)} {elt iter : Expr} {ifs : List Expr} (hc : X.calm = true) (hN : X.N.Nodup) (hy : X.N[i]? = some y) (hyl : X.env.scope.names.lookup y = some .local)
    (hsw : swapsWith (.ListComp elt [⟨tg, iter, ifs, 0⟩] scope pos) (some (.Name y py)) spos.line X.env = pure true) (ok : BlkOk X.N X.env.scope scope own) (hl : ifs.length ≤ 1)
    (h : LcP X scope elt tg iter ifs (own.map (·.2)) Δ M fun ds M1 => ks.nx (Δ.set i (some (.lst ds))) M1)
    (hs : ∀ x, foldedSetIterable iter X.env x = pure x := by intro _; rfl) : StD X (.Assign [.Name y py] (.ListComp elt [⟨tg, iter, ifs, 0⟩] scope pos) spos) Δ M ks := fun F H σ Q hS okk post => by
  refine semS_of (ps_setLc hc hN hy hyl hsw pi_sem ok (fun s H C cl fp => pgB s H C cl fp) (fun s H C cl fp => ptsB s H C cl fp hl) (fun s H C cl fp => peB s H C cl fp) hs) ?_
  refine lc_read h hS okk fun ds M' F' H' q vs hk st ok' f m n hq il => ?_
  refine post.nx _ M' (upd F' q (.lst vs)) H' _ hk ⟨st.ext.trans (same_new f), fun x o e => ?_, st.keep, st.dom, st.there⟩ ⟨fun x o e => ?_, fun x m' e => ?_⟩ ((hS.mono (st.ext.trans (same_new f))).set i (lst_new il f))
  · by_cases z : x = q
    · subst z; exact .inr (.inl n)
    · rw [upd_ne z] at e; exact st.new x o e
  · by_cases z : x = q
    · subst z; rw [upd_same] at e; cases e; exact .inl hq
    · rw [upd_ne z] at e; exact ok'.sub x o e
  · obtain ⟨h1, o, h2, h3⟩ := ok'.mem x m' e
    have z : x ≠ q := fun z => by rw [z, m] at e; cases e
    exact ⟨by rw [upd_ne z]; exact h1, o, h2, h3.mono (same_new f)⟩
/-- .. and the list a cell -/
theorem s_setLcC {i : Nat} {y : Str} {py spos : Pos} {scope : Scope} {own : List (Str × Nat)} {elt iter : Expr} {ifs : List Expr} (hc : X.calm = true) (hN : X.N.Nodup) (hy : X.N[i]? = some y) (hyl : X.env.scope.names.lookup y = some .local)
    (hsw : swapsWith (.ListComp elt [⟨tg, iter, ifs, 0⟩] scope pos) (some (.Name y py)) spos.line X.env = pure true) (ok : BlkOk X.N X.env.scope scope own) (hl : ifs.length ≤ 1)
    (h : LcP X scope elt tg iter ifs (own.map (·.2)) Δ M fun ds M1 => ∀ q, M1 q = none → ks.nx (Δ.set i (some (.cell q))) (mup M1 q (.lst ds)))
    (hs : ∀ x, foldedSetIterable iter X.env x = pure x := by intro _; rfl) : StD X (.Assign [.Name y py] (.ListComp elt [⟨tg, iter, ifs, 0⟩] scope pos) spos) Δ M ks := fun F H σ Q hS okk post => by
  refine semS_of (ps_setLc hc hN hy hyl hsw pi_sem ok (fun s H C cl fp => pgB s H C cl fp) (fun s H C cl fp => ptsB s H C cl fp hl) (fun s H C cl fp => peB s H C cl fp) hs) ?_
  refine lc_read h hS okk fun ds M' F' H' q vs hk st ok' f m n hq il => ?_
  refine post.nx _ (mup M' q (.lst ds)) F' H' _ (hk q m) ⟨st.ext, st.new, st.keep, fun x e z => ?_, st.there⟩ ⟨ok'.sub, fun x m' e => ?_⟩ ((hS.mono st.ext).set i (is_cell.2 rfl))
  · have z' : x ≠ q := fun w => z (by rw [w]; exact n)
    rw [mup_ne z']; exact st.dom x e z
  · by_cases z : x = q
    · subst z; rw [mup_same] at e; cases e; exact ⟨f, _, hq, vs, rfl, il⟩
    · rw [mup_ne z] at e; exact ok'.mem x m' e
/-- a, b = x, y -/
theorem s_par {i j : Nat} {y : Str} {px py pt : Pos} {kt k2 pt2} (hc : X.calm = true) (hN : X.N.Nodup) (hi : X.N[i]? = some x) (hj : X.N[j]? = some y) (hij : i ≠ j) (hx : X.env.scope.names.lookup x = some .local) (hy : X.env.scope.names.lookup y = some .local)
    (hw : swappedStores [.Tuple [.Name x px, .Name y py] kt pt] (.Tuple [a, b] k2 pt2) X.env = pure (some [x, y]))
    (h : EvD X a Δ M fun d1 M1 => EvD X b Δ M1 fun d2 M2 => ks.nx ((Δ.set i (some d1)).set j (some d2)) M2) (hs : swapsWithSole [.Tuple [.Name x px, .Name y py] kt pt] (.Tuple [a, b] k2 pt2) pos.line X.env = pure false := by rfl)
    (h1 : starEach [a, b] X.env = (false, eval a X.env) :: starEach [b] X.env := by rfl) (h2 : starEach [b] X.env = [(false, eval b X.env)] := by rfl) :
    StD X (.Assign [.Tuple [.Name x px, .Name y py] kt pt] (.Tuple [a, b] k2 pt2) pos) Δ M ks := fun F H σ Q hS ok post =>
  semS_of (ps_par hc hN hi hj hij hx hy (pa_cons pe_sem (pa_cons pe_sem pa_nil h2) h1) hw hs) (two h hS ok fun d1 d2 M' F' H' u w q st ok' i1 i2 =>
    ⟨u, w, rfl, post.nx _ M' F' H' _ q st ok' (((hS.mono st.ext).set i i1).set j i2)⟩)
theorem s_par3 {c : Expr} {i j l : Nat} {y z : Str} {px py pz pt : Pos} {kt k2 pt2} (hc : X.calm = true) (hN : X.N.Nodup) (hi : X.N[i]? = some x) (hj : X.N[j]? = some y) (hl : X.N[l]? = some z) (hij : i ≠ j) (hil : i ≠ l) (hjl : j ≠ l) (hx : X.env.scope.names.lookup x = some .local) (hy : X.env.scope.names.lookup y = some .local) (hz : X.env.scope.names.lookup z = some .local)
    (hw : swappedStores [.Tuple [.Name x px, .Name y py, .Name z pz] kt pt] (.Tuple [a, b, c] k2 pt2) X.env = pure (some [x, y, z]))
    (h : EvD X a Δ M fun d1 M1 => EvD X b Δ M1 fun d2 M2 => EvD X c Δ M2 fun d3 M3 => ks.nx (((Δ.set i (some d1)).set j (some d2)).set l (some d3)) M3) (hs : swapsWithSole [.Tuple [.Name x px, .Name y py, .Name z pz] kt pt] (.Tuple [a, b, c] k2 pt2) pos.line X.env = pure false := by rfl)
    (h1 : starEach [a, b, c] X.env = (false, eval a X.env) :: starEach [b, c] X.env := by rfl) (h2 : starEach [b, c] X.env = (false, eval b X.env) :: starEach [c] X.env := by rfl) (h3 : starEach [c] X.env = [(false, eval c X.env)] := by rfl) :
    StD X (.Assign [.Tuple [.Name x px, .Name y py, .Name z pz] kt pt] (.Tuple [a, b, c] k2 pt2) pos) Δ M ks := fun F H σ Q hS ok post =>
  semS_of (ps_par3 hc hN hi hj hl hij hil hjl hx hy hz (pa_cons pe_sem (pa_cons pe_sem (pa_cons pe_sem pa_nil h3) h2) h1) hw hs) (two h hS ok fun d1 d2 M' F' H' u w q st ok' i1 i2 =>
    q F' H' σ _ (hS.mono st.ext) ok' fun d3 M3 F3 H3 v q3 st3 ok3 i3 => ⟨u, w, v, rfl, post.nx _ M3 F3 H3 _ q3 (st.trans st3) ok3 ((((hS.mono (st.trans st3).ext).set i (i1.mono st3.ext)).set j (i2.mono st3.ext)).set l i3)⟩)
/-- target = value, any target of names -/
theorem s_asg (h : EvD X e Δ M fun d M1 => ∃ Δ1 sl, GdD X tg d Δ Δ1 sl ∧ ks.nx Δ1 M1) (hs : swapsWithSole [tg] e pos.line X.env = pure false := by rfl) (hw : swappedStores [tg] e X.env = pure none := by rfl)
    (h1 : (assignEach [tg] X.env).map (·.2) = [assign tg X.env] := by rfl) : StD X (.Assign [tg] e pos) Δ M ks := fun F H σ Q hS ok post =>
  semS_of (ps_asg pe_sem pg_sem hs hw h1) (h F H σ _ hS ok fun d M1 F1 H1 v ⟨Δ1, sl, g, q⟩ st ok1 i => g F1 M1 H1 σ v _ (hS.mono st.ext) ok1 i fun σ' hS' _ => post.nx _ M1 F1 H1 _ q st ok1 hS')
/-- x[i] = e of a cell -/
theorem s_put {spos : Pos} (h : EvD X e Δ M fun y M1 => EvD X a Δ M1 fun d M2 => EvD X b Δ M2 fun j M3 => ∃ q ds n jj, d = .cell q ∧ j = .int n ∧ M3 q = some (.lst ds) ∧ ixN ds.length n = some jj ∧ ks.nx Δ (mup M3 q (.lst (ds.set jj y))))
    (hs : swapsWithSole [.Subscript a b spos] e pos.line X.env = pure false := by rfl) (hw : swappedStores [.Subscript a b spos] e X.env = pure none := by rfl) (h1 : (assignEach [.Subscript a b spos] X.env).map (·.2) = [assign (.Subscript a b spos) X.env] := by rfl)
    (ha : ∀ v, assign (.Subscript a b spos) X.env v = (do
      let ov ← holding [v] (eval a X.env)
      let iv ← holding [v, ov] (eval b X.env)
      standAt spos
      holding [v, ov, iv] (setItem ov iv v)
      release [v, ov, iv] []) := by intro _; rfl) : StD X (.Assign [.Subscript a b spos] e pos) Δ M ks := fun F H σ Q hS ok post =>
  semS_of (ps_asg pe_sem (pg_sub pe_sem pe_sem set_list ha) hs hw h1) (h F H σ _ hS ok fun y M1 F1 H1 v hq st ok1 iy => two hq (hS.mono st.ext) ok1 fun d j M3 F3 H3 u w ⟨q, ds, n, jj, e1, e2, hm, hj, hk⟩ st3 ok3 i1 i2 => by
    subst e1 e2
    obtain ⟨vs, hH, il⟩ := cell_of ok3 hm
    refine ⟨q, vs, n, jj, is_cell.1 i1, is_int.1 i2, hH, by rw [← il.length]; exact hj, ?_⟩
    have wr := ok3.write (m := .lst (ds.set jj y)) (o := .lst (vs.set jj v)) hm ⟨_, rfl, il.set jj (iy.mono st3.ext)⟩
    exact post.nx _ _ F3 _ σ hk ((st.trans st3).trans wr.2) wr.1 (hS.mono (st.trans st3).ext))
/-! ### for -/
theorem s_for {iter : Expr} (hp : PassesOwn (model X.prog X.w) X.A X.env X.xe) (hc : X.calm = true)
    (h : ItD X tg iter Δ M fun ds M1 => ∃ I : Nat → DS → Store → Prop, I 0 Δ M1 ∧ (∀ i d Δ' M', ds[i]? = some d → I i Δ' M' → ∃ Δ1 sl, GdD X tg d Δ' Δ1 sl ∧ SsD X body Δ1 M' { nx := I (i + 1), ct := I (i + 1), bk := ks.nx, rt := ks.rt }) ∧ (∀ Δ' M', I ds.length Δ' M' → ks.nx Δ' M'))
    (hs : ∀ x, foldedSetIterable iter X.env x = pure x := by intro _; rfl) : StD X (.For tg iter body [] pos) Δ M ks := fun F H σ Q hS ok post => by
  refine semS_of (ps_for hp hc pi_sem pg_sem pss_sem hs) ?_
  refine h F H σ _ hS ok fun ds M1 F1 H1 J ⟨I, h0, hstep, hend⟩ st ok1 rep => ?_
  refine ⟨fun i m σ' H' => ∃ Δ' M' F', m = ds.length - i ∧ i ≤ ds.length ∧ Stp F1 M1 H1 F' M' H' ∧ Ok X.K F' M' H' ∧ IsS X.K F' Δ' σ' ∧ I i Δ' M', ⟨ds.length, Δ, M1, F1, rfl, Nat.zero_le _, Stp.refl, ok1, hS.mono st.ext, h0⟩, ?_⟩
  rintro i m σ' H' ⟨Δ', M', F', rfl, hi, st', ok', hS', hI⟩
  by_cases hlt : i < ds.length
  · refine .inr ⟨rep.go i F' M' H' st' ok' hlt, fun σ2 H2 => ∃ Δ2 M2 F2, Stp F1 M1 H1 F2 M2 H2 ∧ Ok X.K F2 M2 H2 ∧ IsS X.K F2 Δ2 σ2 ∧ I (i + 1) Δ2 M2,
      fun σ2 H2 ⟨Δ2, M2, F2, a1, a2, a3, a4⟩ => ⟨ds.length - (i + 1), by omega, Δ2, M2, F2, rfl, hlt, a1, a2, a3, a4⟩, fun v H2 y => ?_⟩
    obtain ⟨F2, d, hd, st2, ok2, iv⟩ := rep.yld i F' M' H' v H2 st' ok' hlt y
    obtain ⟨Δ1, sl, g, hb⟩ := hstep i d Δ' M' hd hI
    have s12 := st'.trans st2
    refine g F2 M' H2 σ' v _ (hS'.mono st2.ext) ok2 iv fun σ3 hS3 _ => hb F2 H2 σ3 _ hS3 ok2 ⟨fun Δ4 M4 F4 H4 σ4 q s4 ok4 hS4 => ⟨Δ4, M4, F4, s12.trans s4, ok4, hS4, q⟩, ?_, ?_, fun Δ4 M4 F4 H4 σ4 q s4 ok4 hS4 => ⟨Δ4, M4, F4, s12.trans s4, ok4, hS4, q⟩⟩
    · exact post.rt.step (st.trans s12)
    · exact fun Δ4 M4 F4 H4 σ4 q s4 ok4 hS4 => post.nx Δ4 M4 F4 H4 σ4 q ((st.trans s12).trans s4) ok4 hS4
  · have e : i = ds.length := by omega
    subst e
    exact .inl ⟨rep.stop F' M' H' st' ok', post.nx Δ' M' F' H' σ' (hend Δ' M' hI) (st.trans st') ok' hS'⟩
/-! ### cells frozen, dropped -/
/-! ### a def's contract -/
abbrev SpD := List D → Store → DK → Prop
def spOf (K : PySem.W.Frag) (sp : SpD) : Sp := fun vs H Q _ => ∃ ds F M k, IsL K F ds vs ∧ Ok K F M H ∧ sp ds M k ∧ Post K F M H k Q
def startD (N : List Str) (ds : List D) : DS := ds.map some ++ List.replicate (N.length - ds.length) none
theorem start_is {K : PySem.W.Frag} {F : Hp} {N : List Str} {ds : List D} {vs : List V} (h : IsL K F ds vs) : IsS K F (startD N ds) (L2.start N vs) := by
  unfold startD L2.start
  refine ⟨by rw [List.length_append, List.length_append, List.length_map, List.length_map, List.length_replicate, List.length_replicate, h.length], fun i d e => ?_⟩
  by_cases hi : i < ds.length
  · rw [List.getElem?_append_left (by rw [List.length_map]; exact hi), List.getElem?_map] at e
    have hi2 : i < vs.length := by rw [← h.length]; exact hi
    rw [List.getElem?_append_left (by rw [List.length_map]; exact hi2), List.getElem?_map]
    cases hd : ds[i]? with
    | none => rw [hd] at e; cases e
    | some d0 =>
      rw [hd] at e
      cases e
      obtain ⟨v, h1, h2⟩ := h.get hd
      exact ⟨v, by rw [h1]; rfl, h2⟩
  · rw [List.getElem?_append_right (by rw [List.length_map]; omega), List.getElem?_replicate] at e
    split at e <;> cases e
end
section
variable {P : Program} {w : World} {K : PySem.W.Frag} {mg : Str → Option Value} {base : Heap}
/-- the context of a def's body -/
abbrev XOf (P : Program) (w : World) (K : PySem.W.Frag) (mg : Str → Option Value) (base : Heap) (N : List Str) (qual : Str) (st : Stmt) (f : Addr) (cdv : Value) (A : Around) (outer : List Env) (s : Shared) (H : Hp) (E : XK) : Cx := (cxOf CX0 P w K mg base N qual (defScope st) f cdv A outer s H E).nox
/-- a def that can be called -/
structure Cal (P : Program) (w : World) (K : PySem.W.Frag) (mg : Str → Option Value) (base : Heap) (x : Str) (n : Nat) (sp : SpD) : Prop where
  ex : ∃ f fd ps, FnOk P w K mg base CX0 n f fd ps (spOf K sp) ∧ mg x = some (.ref f) ∧ PySem.W.keepIn K (.ref f) = true ∧ Binds K fd ps []
theorem Cal.mono {x : Str} {m n : Nat} {sp : SpD} (c : Cal P w K mg base x m sp) (h : m ≤ n) : Cal P w K mg base x n sp := by
  obtain ⟨f, fd, ps, h1, h2⟩ := c.ex
  exact ⟨f, fd, ps, h1.mono h, h2⟩
end
section
variable {X : Cx} {e : Expr} {es : List Expr} {Δ : DS} {M : Store} {k : DK} {p pos : Pos} {x : Str}
theorem ev_call {n : Nat} {sp : SpD} (C : Cal X.prog X.w X.K X.mg X.base x n sp) (hr : Room n X.A) (hg : Gl X x) (h : EvA X (e :: es) Δ M fun ds M1 => sp ds M1 k) (hdb : (x == ("__debug__" : Str)) = false := by decide)
    (he : starEach (e :: es) X.env = (false, eval e X.env) :: starEach es X.env := by rfl) (hpl : (backTo pos (starEach es X.env)).any (·.1) = false := by rfl) : EvD X (.Call (.Name x p) (e :: es) [] pos) Δ M k := fun F H σ Q hS ok post => by
  obtain ⟨f, fd, ps, hF, hm, hk, hb⟩ := C.ex
  refine sem_of (pe_call (E := E0) hF hr hg hm hk hb .nil pass0 pa_sem hdb he hpl) (h F H σ _ hS ok fun ds M1 F1 H1 vs q st ok1 il => ?_)
  rw [List.append_nil]
  exact ⟨ds, F1, M1, k, il, ok1, q, post.step st⟩
theorem ev_call0 {n : Nat} {sp : SpD} (C : Cal X.prog X.w X.K X.mg X.base x n sp) (hr : Room n X.A) (hg : Gl X x) (h : sp [] M k) (hdb : (x == ("__debug__" : Str)) = false := by decide) : EvD X (.Call (.Name x p) [] [] pos) Δ M k := fun F H σ Q hS ok post => by
  obtain ⟨f, fd, ps, hF, hm, hk, hb⟩ := C.ex
  exact sem_of (pe_call0 (E := E0) hF hr hg hm hk hb .nil pass0 hdb) ⟨[], F, M, k, IsL.nil, ok, h, post⟩
end
end DL
end
section
set_option Elab.async false
set_option linter.all false
set_option maxRecDepth 100000
namespace DL
open PySem L2
section
variable {X : Cx} {a b e e2 o : Expr} {es rest : List Expr} {Δ : DS} {M : Store} {k : DK} {kb : BK} {ka : AK} {p pos apos : Pos} {x : Str} {op : CmpOp}
/-! ### a comparison as a value and as a test -/
def SemC (X : Cx) (op : CmpOp) (a b : Expr) : TE := fun σ H Q => ∀ pins s, Inv X pins σ H s → wpAny (model X.prog X.w) X.A (eval a X.env) (fun v s₁ => wpAny (model X.prog X.w) X.A (eval b X.env) (fun u s₂ => wpAny (model X.prog X.w) X.A (compareOp op v u) (EP X pins σ Q) X.xe s₂) X.xe s₁) X.xe s
theorem pc_sem : PC X op a b (SemC X op a b) := ⟨fun pins s _ _ _ I h => h pins s I⟩
theorem semC_of {t : TE} {σ : L2.St} {H : Hp} {Q : VK} (h : PC X op a b t) (q : t σ H Q) : SemC X op a b σ H Q := fun pins s I => h.run pins s σ H Q I q
theorem pc_op {r : R2} {ta tb : TE} (ho : OpR X (compareOp op) r) (ha : PE X a ta) (hb : PE X b tb) : PC X op a b (tOp r ta tb) := by
  refine ⟨fun pins s σ H Q I h => ?_⟩
  exact bin ha hb I h fun v u s2 x y H2 I2 rx ry q => ho pins s2 σ H2 x y v u Q I2 rx ry q
def EvC (X : Cx) (op : CmpOp) (a b : Expr) (Δ : DS) (M : Store) (k : DK) : Prop := ∀ F H σ (Q : VK), IsS X.K F Δ σ → Ok X.K F M H → Post X.K F M H k Q → SemC X op a b σ H Q
theorem ev_c1 (hm : behindInMarks op b = false) (h : EvC X op a b Δ M k) : EvD X (.Compare a [op] [b] pos) Δ M k := fun F H σ Q hS ok post => sem_of (pe_cmp pc_sem hm) (h F H σ Q hS ok post)
theorem te_c1 (hm : behindInMarks op b = false) (h : EvC X op a b Δ M fun d M' => ∃ c, d = .bl c ∧ kb c M') : TeD X (.Compare a [op] [b] pos) Δ M kb := fun F H σ Q hS ok post =>
  semT_of (pt_cmp pc_sem hm) (h F H σ _ hS ok fun d M' F' H' v ⟨c, ed, q⟩ st ok' i => by
    subst ed
    exact ⟨c, is_bl.1 i, post c M' F' H' q st ok'⟩)
theorem c_op2 {r : R2} (ho : OpR X (compareOp op) r) (h : EvD X a Δ M fun d1 M1 => EvD X b Δ M1 fun d2 M2 => P2 X r d1 d2 M2 k) : EvC X op a b Δ M k := fun F H σ Q hs ok post =>
  semC_of (pc_op ho pe_sem pe_sem) (two h hs ok fun d1 d2 M' F' H' x y p st ok' i1 i2 => p F' H' x y Q ok' i1 i2 (post.step st))
theorem c_co (h : EvD X a Δ M fun d1 M1 => EvD X b Δ M1 fun d2 M2 => CoP op d1 d2 M2 k) : EvC X op a b Δ M k := c_op2 op_co (h.mono fun _ _ q => q.mono fun _ _ p => p2_co p)
def EqA (neg : Bool) (d1 d2 : D) (M : Store) (k : DK) : Prop := EqS neg d1 d2 M k ∨ EqP neg d1 d2 M k
theorem c_eq (hu : X.A.units + 64 < cLine) (h : EvD X a Δ M fun d1 M1 => EvD X b Δ M1 fun d2 M2 => EqA false d1 d2 M2 k) : EvC X .Eq a b Δ M k :=
  c_op2 (op_eq.or (op_eqD hu)) (h.mono fun _ _ q => q.mono fun _ _ z F H u w Q ok i1 i2 post => by
    rcases z with ⟨x, y, h1, h2, s1, hk⟩ | ⟨p, q, h1, h2, s1, s2, hk⟩
    · rw [sc_is h1 i1, sc_is h2 i2]
      exact .inl ⟨s1, post.here ok hk (is_bl.2 rfl)⟩
    · exact .inr ⟨p, q, dp_of ok _ _ _ h1 i1, dp_of ok _ _ _ h2 i2, s1, s2, post.here ok hk (is_bl.2 rfl)⟩)
theorem c_ne (hu : X.A.units + 64 < cLine) (h : EvD X a Δ M fun d1 M1 => EvD X b Δ M1 fun d2 M2 => EqA true d1 d2 M2 k) : EvC X .NotEq a b Δ M k :=
  c_op2 (op_ne.or (op_neD hu)) (h.mono fun _ _ q => q.mono fun _ _ z F H u w Q ok i1 i2 post => by
    rcases z with ⟨x, y, h1, h2, s1, hk⟩ | ⟨p, q, h1, h2, s1, s2, hk⟩
    · rw [sc_is h1 i1, sc_is h2 i2]
      exact .inl ⟨s1, post.here ok hk (is_bl.2 rfl)⟩
    · exact .inr ⟨p, q, dp_of ok _ _ _ h1 i1, dp_of ok _ _ _ h2 i2, s1, s2, post.here ok hk (is_bl.2 rfl)⟩)
theorem c_isN {j : Nat} {p : Pos} (h : EvD X a Δ M fun d1 M1 => k (.bl (isNon d1)) M1) : EvC X .Is a (.Constant .none j p) Δ M k := fun F H σ Q hs ok post =>
  semC_of (pc_isN pe_sem) (h F H σ _ hs ok fun d M' F' H' v hk st ok' i => by
    rw [isNon_of i]
    exact (post.step st).here ok' hk (is_bl.2 rfl))
theorem c_notN {j : Nat} {p : Pos} (h : EvD X a Δ M fun d1 M1 => k (.bl (!isNon d1)) M1) : EvC X .IsNot a (.Constant .none j p) Δ M k := fun F H σ Q hs ok post =>
  semC_of (pc_notN pe_sem) (h F H σ _ hs ok fun d M' F' H' v hk st ok' i => by
    rw [isNon_of i]
    exact (post.step st).here ok' hk (is_bl.2 rfl))
/-- in: a flat thing in a sequence, a sign in a text -/
def InA (neg : Bool) (d1 d2 : D) (M : Store) (k : DK) : Prop := InP neg d1 d2 M k ∨ ∃ c z, d1 = .str ⟨#[c]⟩ ∧ d2 = .str z ∧ k (.bl (if neg then !decide (c ∈ z.cps.toList) else decide (c ∈ z.cps.toList))) M
theorem c_in (h : EvD X a Δ M fun d1 M1 => EvD X b Δ M1 fun d2 M2 => InA false d1 d2 M2 k) : EvC X .In a b Δ M k :=
  c_op2 (op_in_seq.or op_in_sign) (h.mono fun _ _ q => q.mono fun d2 M2 z F H u w Q ok i1 i2 post => by
    rcases z with ⟨x, ds, vs, h1, h2, h3, hk⟩ | ⟨c, z, e1, e2, hk⟩
    · obtain ⟨p, ws, e, hq, hl⟩ := seq_of ok h2 i2
      have ew := flatL_of h3 hl
      subst ew
      rw [sc_is h1 i1]
      exact .inl ⟨p, ws, e, hq, flatV_sc h1, flatL_all h3, post.here ok hk (is_bl.2 rfl)⟩
    · subst e1 e2
      exact .inr ⟨c, z, is_str.1 i1, is_str.1 i2, post.here ok hk (is_bl.2 rfl)⟩)
/-! ### pure chains: one answer -/
end
/-! ### finishers -/
section
variable {M : Store} {k : DK} {i j : Int} {x y : Str} {xs ys : List D} {c1 c2 : Bool}
theorem add_int (h : k (.int (i + j)) M) : AddP (.int i) (.int j) M k := h
theorem add_str (l : x.length + y.length ≤ sizeLine) (h : k (.str (x ++ y)) M) : AddP (.str x) (.str y) M k := ⟨l, h⟩
theorem add_lst (l : xs.length + ys.length ≤ sizeLine) (h : k (.lst (xs ++ ys)) M) : AddP (.lst xs) (.lst ys) M k := ⟨l, h⟩
theorem add_tup (l : xs.length + ys.length ≤ sizeLine) (h : k (.tup (xs ++ ys)) M) : AddP (.tup xs) (.tup ys) M k := ⟨l, h⟩
theorem num_int {g : Int → Int → D} (h : k (g i j) M) : NumP g (.int i) (.int j) M k := h
theorem num1_int {g : Int → D} (h : k (g i) M) : NumP1 g (.int i) M k := h
theorem intp_int {C : Int → Int → Prop} {g : Int → Int → D} (c : C i j) (h : k (g i j) M) : IntP C g (.int i) (.int j) M k := ⟨c, h⟩
theorem mul_int (c : IntMulOk i j) (h : k (.int (i * j)) M) : MulP (.int i) (.int j) M k := ⟨c, h⟩
theorem mul_lst (c : -(2 ^ 63) ≤ j ∧ j < 2 ^ 63 ∧ xs.length * j.toNat ≤ sizeLine) (h : k (.lst (List.replicate j.toNat xs).flatten) M) : MulP (.lst xs) (.int j) M k := ⟨c, h⟩
theorem intc_int (h : k (.int i) M) : IntC (.int i) M k := h
theorem intc_bl (h : k (.int (if c1 then 1 else 0)) M) : IntC (.bl c1) M k := h
theorem lt_int (h : k (.bl (decide (i < j))) M) : CoP .Lt (.int i) (.int j) M k := h
theorem le_int (h : k (.bl (decide (i ≤ j))) M) : CoP .LtE (.int i) (.int j) M k := h
theorem gt_int (h : k (.bl (decide (j < i))) M) : CoP .Gt (.int i) (.int j) M k := h
theorem ge_int (h : k (.bl (decide (j ≤ i))) M) : CoP .GtE (.int i) (.int j) M k := h
theorem eq_int (h : k (.bl (decide (i = j))) M) : EqA false (.int i) (.int j) M k := .inl ⟨.int i, .int j, rfl, rfl, rfl, by
  have e : decide (V.int i = V.int j) = decide (i = j) := decide_eq_decide.mpr ⟨fun z => by cases z; rfl, fun z => by rw [z]⟩
  rw [e]; exact h⟩
theorem ne_int (h : k (.bl (!decide (i = j))) M) : EqA true (.int i) (.int j) M k := .inl ⟨.int i, .int j, rfl, rfl, rfl, by
  have e : decide (V.int i = V.int j) = decide (i = j) := decide_eq_decide.mpr ⟨fun z => by cases z; rfl, fun z => by rw [z]⟩
  rw [e]; exact h⟩
theorem eq_str (h : k (.bl (decide (x = y))) M) : EqA false (.str x) (.str y) M k := .inl ⟨.str x, .str y, rfl, rfl, rfl, by
  have e : decide (V.str x = V.str y) = decide (x = y) := decide_eq_decide.mpr ⟨fun z => by cases z; rfl, fun z => by rw [z]⟩
  rw [e]; exact h⟩
theorem ne_str (h : k (.bl (!decide (x = y))) M) : EqA true (.str x) (.str y) M k := .inl ⟨.str x, .str y, rfl, rfl, rfl, by
  have e : decide (V.str x = V.str y) = decide (x = y) := decide_eq_decide.mpr ⟨fun z => by cases z; rfl, fun z => by rw [z]⟩
  rw [e]; exact h⟩
theorem eq_bl (h : k (.bl (decide (c1 = c2))) M) : EqA false (.bl c1) (.bl c2) M k := .inl ⟨.bl c1, .bl c2, rfl, rfl, rfl, by
  have e : decide (V.bl c1 = V.bl c2) = decide (c1 = c2) := decide_eq_decide.mpr ⟨fun z => by cases z; rfl, fun z => by rw [z]⟩
  rw [e]; exact h⟩
theorem ne_bl (h : k (.bl (!decide (c1 = c2))) M) : EqA true (.bl c1) (.bl c2) M k := .inl ⟨.bl c1, .bl c2, rfl, rfl, rfl, by
  have e : decide (V.bl c1 = V.bl c2) = decide (c1 = c2) := decide_eq_decide.mpr ⟨fun z => by cases z; rfl, fun z => by rw [z]⟩
  rw [e]; exact h⟩
theorem eq_non (h : k (.bl true) M) : EqA false .non .non M k := .inl ⟨.non, .non, rfl, rfl, rfl, h⟩
theorem eq_nonI (h : k (.bl false) M) : EqA false .non (.int i) M k := .inl ⟨.non, .int i, rfl, rfl, rfl, h⟩
theorem sl_str {lo hi : Option Int} (l : x.length ≤ sizeLine) (h : k (.str (cutS x lo hi)) M) : SlP (.str x) lo hi M k := ⟨l, h⟩
theorem sl_tup {lo hi : Option Int} (h : k (.tup (cutD xs lo hi)) M) : SlP (.tup xs) lo hi M k := h
theorem sl_lst {lo hi : Option Int} (h : k (.lst (cutD xs lo hi)) M) : SlP (.lst xs) lo hi M k := ⟨xs, rfl, h⟩
theorem sl_frl {lo hi : Option Int} (h : k (.lst (cutD xs lo hi)) M) : SlP (.frl xs) lo hi M k := ⟨xs, rfl, h⟩
theorem iteB {A B : Prop} {c : Bool} (h1 : c = true → A) (h2 : c = false → B) : if c = true then A else B := by
  cases c with
  | true => exact h1 rfl
  | false => exact h2 rfl
end
end DL
end
section
set_option Elab.async false
set_option linter.all false
set_option maxRecDepth 100000
namespace DL
open PySem L2
section
variable {X : Cx} {a b e e2 o : Expr} {es rest : List Expr} {Δ : DS} {M : Store} {k : DK} {kb : BK} {ka : AK} {p pos apos : Pos} {x : Str} {op : CmpOp}
theorem at_cell {q : Addr} {ds : List D} {i : Int} {r : D} (h : M q = some (.lst ds)) (e : atI ds i = some r) : atD M (.cell q) i = some r := by
  have h1 : seqD M (.cell q) = some ds := by
    simp only [seqD, h]
  show (seqD M (.cell q)).bind (fun ds => atI ds i) = some r
  rw [h1]
  exact e
theorem seq_cell {q : Addr} {ds : List D} (h : M q = some (.lst ds)) : seqD M (.cell q) = some ds := by
  simp only [seqD, h]
theorem ls_cell {q : Addr} {ds : List D} (h : M q = some (.lst ds)) : lsD M (.cell q) = some ds := by
  simp only [lsD, h]
theorem tru_cell {q : Addr} {ds : List D} (h : M q = some (.lst ds)) : truD M (.cell q) = some (!ds.isEmpty) := by
  simp only [truD, h]
/-- a module's constant -/
theorem ev_g {d : D} {v : V} {u : Value} (hm : X.mg x = some u ∧ RelV v u ∧ ∀ F, Is X.K F d v) (hg : Gl X x) (h : k d M) (hd : (x == ("__debug__" : Str)) = false := by decide) : EvD X (.Name x pos) Δ M k :=
  ev_c (pe_glob hg hm.1 hm.2.1 hd) hm.2.2 h
/-- a < b < c as a test -/
theorem te_chain {c : Expr} {op op' : CmpOp} (hm : lastMarks [op, op'] [b, c] = false)
    (h : EvD X a Δ M fun d1 M1 => EvD X b Δ M1 fun d2 M2 => CoP op d1 d2 M2 fun d M3 => ∃ z, d = .bl z ∧ if z = true then EvD X c Δ M3 (fun d3 M4 => CoP op' d2 d3 M4 fun d M5 => ∃ z, d = .bl z ∧ kb z M5) else kb false M3) : TeD X (.Compare a [op, op'] [b, c] pos) Δ M kb := fun F H σ Q hs ok post => by
  refine semT_of (pt_chain op_co op_co pe_sem pe_sem pe_sem hm) ?_
  refine two h hs ok fun d1 d2 M' F' H' x y p st ok' i1 i2 => p2_co p F' H' x y _ ok' i1 i2 fun d M2 F2 H2 v ⟨z, ed, kz⟩ st2 ok2 i => ?_
  subst ed
  refine ⟨z, is_bl.1 i, ?_⟩
  have st12 := st.trans st2
  cases z with
  | true =>
    rw [if_pos rfl] at kz ⊢
    exact kz F2 H2 σ _ (hs.mono st12.ext) ok2 fun d3 M3 F3 H3 u k3 st3 ok3 i3 => p2_co k3 F3 H3 y u _ ok3 (i2.mono (st2.ext.trans st3.ext)) i3 fun d M4 F4 H4 v ⟨z, ed, kz⟩ st4 ok4 i => by
      subst ed
      exact ⟨z, is_bl.1 i, post z M4 F4 H4 kz ((st12.trans st3).trans st4) ok4⟩
  | false =>
    rw [if_neg Bool.false_ne_true] at kz ⊢
    exact ⟨false, rfl, post false M2 F2 H2 kz st12 ok2⟩
end
/-! ### the urn of a law -/
def Urn (M : Store) (u : Addr) (n : Nat) : Prop := ∃ a b c : Int, M u = some (.lst [.int a, .int b, .int c]) ∧ 0 ≤ a ∧ 0 ≤ b ∧ b < 2 ^ 62 ∧ 0 ≤ c ∧ c + (n : Int) ≤ 2 ^ 60
theorem Urn.le {M : Store} {u : Addr} {m n : Nat} (h : Urn M u n) (l : m ≤ n) : Urn M u m := by
  obtain ⟨a, b, c, h1, h2, h3, h4, h5, h6⟩ := h
  exact ⟨a, b, c, h1, h2, h3, h4, h5, by omega⟩
theorem Urn.mup {M : Store} {u q : Addr} {n : Nat} {m : MO} (h : Urn M u n) (l : q ≠ u) : Urn (mup M q m) u n := by
  obtain ⟨a, b, c, h1, h2⟩ := h
  exact ⟨a, b, c, by rw [mup_ne l.symm]; exact h1, h2⟩
theorem Urn.mdel {M : Store} {u q : Addr} {n : Nat} (h : Urn M u n) (l : q ≠ u) : Urn (mdel M q) u n := by
  obtain ⟨a, b, c, h1, h2⟩ := h
  exact ⟨a, b, c, by rw [mdel_ne l.symm]; exact h1, h2⟩
theorem Urn.ne {M : Store} {u q : Addr} {n : Nat} (h : Urn M u n) (l : M q = none) : q ≠ u := fun e => by
  obtain ⟨a, b, c, h1, h2⟩ := h
  rw [e, h1] at l
  cases l
end DL
end
section
set_option Elab.async false
set_option linter.all false
set_option maxRecDepth 100000
namespace DL
open PySem L2
/-! ### instances -/
def fldD : List Str → List D → Str → Option D
  | f :: fs, d :: ds, q => match q == f with
    | true => some d
    | false => fldD fs ds q
  | _, _, _ => none
theorem fld_is {K : PySem.W.Frag} {F : Hp} {q : Str} : ∀ {fs : List Str} {ds : List D} {vs : List V} {d : D}, IsL K F ds vs → fldD fs ds q = some d → ∃ v, (fs.zip vs).lookup q = some v ∧ Is K F d v
  | [], _, _, _, _, h => by unfold fldD at h; cases h
  | _ :: _, [], _, _, _, h => by unfold fldD at h; cases h
  | f :: fs, d :: ds, _, r, i, h => by
    obtain ⟨v, w, rfl, i1, i2⟩ := isL_cons.1 i
    unfold fldD at h
    rw [List.zip_cons_cons, List.lookup_cons]
    cases e : q == f with
    | true =>
      rw [e] at h
      cases h
      exact ⟨v, rfl, i1⟩
    | false =>
      rw [e] at h
      exact fld_is i2 h
def noF (fs : List Str) (m : Str) : Bool := !(fs.any fun f => m == f)
theorem noF_lookup {m : Str} : ∀ {fs : List Str} {vs : List V}, noF fs m = true → (fs.zip vs).lookup m = none
  | [], _, _ => rfl
  | _ :: _, [], _ => rfl
  | f :: fs, v :: vs, h => by
    unfold noF at h
    rw [List.any_cons, Bool.not_or, Bool.and_eq_true] at h
    rw [List.zip_cons_cons, List.lookup_cons]
    cases e : m == f with
    | true => rw [e] at h; cases h.1
    | false => exact noF_lookup h.2
/-- an instance: frozen, or a cell -/
def insD (M : Store) : D → Option (Addr × List Str × List D)
  | .ins C fs ds => some (C, fs, ds)
  | .cell a => match M a with
    | some (.ins C fs ds) => some (C, fs, ds)
    | _ => none
  | _ => none
theorem ins_of {K : PySem.W.Frag} {F H : Hp} {M : Store} (ok : Ok K F M H) {d : D} {C : Addr} {fs : List Str} {ds : List D} {v : V} (h : insD M d = some (C, fs, ds)) (i : Is K F d v) : ∃ a dx vs, v = .ref a ∧ H a = some (.ins C dx (fs.zip vs)) ∧ fs.length = ds.length ∧ IsL K F ds vs := by
  unfold insD at h
  split at h
  · cases h
    obtain ⟨a, dx, vs, e, h1, h2, h3⟩ := is_ins.1 i
    exact ⟨a, dx, vs, e, ok.ins h1, h2, h3⟩
  · rename_i a
    split at h
    · rename_i m c f z e
      cases h
      obtain ⟨_, o, h1, dx, vs, h2, h3, h4⟩ := ok.mem a _ e
      subst h2
      exact ⟨a, dx, vs, is_cell.1 i, h1, h3, h4⟩
    · cases h
  · cases h
section
variable {P : Program} {w : World} {K : PySem.W.Frag} {mg : Str → Option Value} {base : Heap}
/-- a method, a property's getter with its promise -/
structure MethD (P : Program) (w : World) (K : PySem.W.Frag) (mg : Str → Option Value) (base : Heap) (C : Addr) (m : Str) (n : Nat) (sp : SpD) : Prop where
  ex : ∃ f fd ps, FnOk P w K mg base CX0 n f fd ps (spOf K sp) ∧ Meth K C m f ∧ Binds K fd ps []
structure PropD (P : Program) (w : World) (K : PySem.W.Frag) (mg : Str → Option Value) (base : Heap) (C : Addr) (m : Str) (n : Nat) (sp : SpD) : Prop where
  ex : ∃ p g fd ps, FnOk P w K mg base CX0 n g fd ps (spOf K sp) ∧ PropOf K C m p g ∧ Binds K fd ps []
end
section
variable {X : Cx} {a b e e2 o : Expr} {es : List Expr} {Δ : DS} {M : Store} {k : DK} {kb : BK} {ka : AK} {ks : KS} {p pos apos : Pos} {x f m : Str} {C : Addr} {n : Nat} {sp : SpD}
theorem ev_fld (h : EvD X e Δ M fun d M1 => ∃ C fs ds r, insD M1 d = some (C, fs, ds) ∧ Cls X.K C ∧ NoAttr X.K C f ∧ fldD fs ds f = some r ∧ k r M1) (hb : attributeBase e f X.env (eval e X.env) = eval e X.env := by rfl) : EvD X (.Attribute e f pos) Δ M k := fun F H σ Q hS ok post =>
  sem_of (pe_fld pe_sem hb) (h F H σ _ hS ok fun d M1 F1 H1 v ⟨C, fs, ds, r, h1, hc, hn, hr, hk⟩ st ok1 i => by
    obtain ⟨q, dx, vs, e, hq, hl, il⟩ := ins_of ok1 h1 i
    obtain ⟨u, h2, h3⟩ := fld_is il hr
    exact ⟨q, C, dx, _, u, e, hq, hc, hn, h2, (post.step st).here ok1 hk h3⟩)
theorem ev_prop (c : Cls X.K C) (pr : PropD X.prog X.w X.K X.mg X.base C f n sp) (hr : Room (n + 1) X.A) (h : EvD X e Δ M fun d M1 => ∃ fs ds, insD M1 d = some (C, fs, ds) ∧ sp [d] M1 k) (hb : attributeBase e f X.env (eval e X.env) = eval e X.env := by rfl) : EvD X (.Attribute e f pos) Δ M k := fun F H σ Q hS ok post => by
  obtain ⟨q, g, fd, ps, hF, hp, hbn⟩ := pr.ex
  refine sem_of (pe_prop (E := E0) pe_sem c hp hF hr hbn .nil pass0 hb) (h F H σ _ hS ok fun d M1 F1 H1 v ⟨fs, ds, h1, hs⟩ st ok1 i => ?_)
  obtain ⟨r, dx, vs, rfl, hq, hl, il⟩ := ins_of ok1 h1 i
  exact ⟨r, dx, _, rfl, hq, [d], F1, M1, k, IsL.cons i IsL.nil, ok1, hs, post.step st⟩
theorem ev_meth {pl : PySem.Sem Bool} (c : Cls X.K C) (mt : MethD X.prog X.w X.K X.mg X.base C m n sp) (hr : Room n X.A) (h : EvD X o Δ M fun d M1 => ∃ fs ds, insD M1 d = some (C, fs, ds) ∧ noF fs m = true ∧ EvA X (e :: es) Δ M1 fun as M2 => sp (d :: as) M2 k)
    (hst : starEach (e :: es) X.env = (false, eval e X.env) :: starEach es X.env := by rfl) (hpl : (backTo pos (starEach es X.env)).any (·.1) = false := by rfl)
    (ht : eval (.Call (.Attribute o m apos) (e :: es) [] pos) X.env = (do
      let ov ← eval o X.env
      standAt apos.atName
      let (f, first) ← holding [ov] (getMethod ov m pl)
      callWith pos f first (backTo pos (starEach (e :: es) X.env)) (backToKw pos (keywordEach [] X.env))) := by rfl) : EvD X (.Call (.Attribute o m apos) (e :: es) [] pos) Δ M k := fun F H σ Q hS ok post => by
  obtain ⟨f, fd, ps, hF, hm, hbn⟩ := mt.ex
  refine sem_of (pe_meth (pl := pl) (E := E0) pe_sem c hm hF hr hbn .nil pass0 pa_sem hst hpl ht) (h F H σ _ hS ok fun d M1 F1 H1 v ⟨fs, ds, h1, hnf, hs⟩ st ok1 i => ?_)
  obtain ⟨r, dx, vs, rfl, hq, hl, il⟩ := ins_of ok1 h1 i
  refine ⟨r, dx, _, rfl, hq, noF_lookup hnf, hs F1 H1 σ _ (hS.mono st.ext) ok1 fun as M2 F2 H2 us q2 st2 ok2 i2 => ?_⟩
  rw [List.append_nil]
  exact ⟨d :: as, F2, M2, k, IsL.cons (i.mono st2.ext) i2, ok2, q2, post.step (st.trans st2)⟩
/-! ### own operators -/
theorem look_of {pins : List (Addr × Obj)} {σ : L2.St} {H : Hp} {s : Shared} {q dx : Addr} {fs : List (Str × V)} (I : Inv X pins σ H s) (h : H q = some (.ins C dx fs)) : ∃ od, PySem.W.InstAt s.heap q (PySem.W.instObj C dx) C (some od) := by
  obtain ⟨mA, J, _⟩ := ins_get I.hok h
  obtain ⟨od, J, _⟩ := J.look
  exact ⟨od, J⟩
end
end DL
end
section
set_option Elab.async false
set_option linter.all false
set_option maxRecDepth 100000
namespace DL
open PySem L2
section
variable {K : PySem.W.Frag} {F H : Hp} {M : Store}
theorem Ok.junk (ok : Ok K F M H) {p : Addr} {o : HO} (h : H p = none) : Ok K F M (upd H p o) ∧ Stp F M H F M (upd H p o) := by
  obtain ⟨hF, hM⟩ := ok.fresh h
  refine ⟨⟨fun a u e => ?_, fun a m e => ?_⟩, ⟨Same.refl F, fun a u e => .inl e, fun a u e _ => ?_, fun _ m _ => m, fun a n => ?_⟩⟩
  · have q : a ≠ p := fun z => by rw [z, hF] at e; cases e
    rw [upd_ne q]; exact ok.sub a u e
  · have q : a ≠ p := fun z => by rw [z, hM] at e; cases e
    obtain ⟨h1, u, h2, h3⟩ := ok.mem a m e
    exact ⟨h1, u, by rw [upd_ne q]; exact h2, h3⟩
  · rw [upd_ne (ne_of_none e h)]; exact e
  · by_cases q : a = p
    · subst q; exact absurd h n
    · rw [upd_ne q]; exact n
theorem insc_of (ok : Ok K F M H) {q C : Addr} {fs : List Str} {ds : List D} (hm : M q = some (.ins C fs ds)) : ∃ dx vs, H q = some (.ins C dx (fs.zip vs)) ∧ fs.length = ds.length ∧ IsL K F ds vs := by
  obtain ⟨_, o, h1, dx, vs, h2, h3, h4⟩ := ok.mem q _ hm
  subst h2
  exact ⟨dx, vs, h1, h3, h4⟩
theorem put_new {f : Str} {y : V} : ∀ {fs : List Str} {vs : List V}, noF fs f = true → fs.length = vs.length → putF f y (fs.zip vs) = (fs ++ [f]).zip (vs ++ [y])
  | [], [], _, _ => rfl
  | g :: fs, v :: vs, h, l => by
    unfold noF at h
    rw [List.any_cons, Bool.not_or, Bool.and_eq_true] at h
    have hg : ¬ g = f := fun z => by
      subst z
      have := h.1
      rw [show (g == g) = true from beq_iff_eq.2 rfl] at this
      cases this
    show (if g = f then _ else (g, v) :: putF f y (fs.zip vs)) = _
    rw [if_neg hg, put_new (fs := fs) (vs := vs) h.2 (by simpa using l)]
    rfl
  | [], _ :: _, _, l => by cases l
  | _ :: _, [], _, l => by cases l
def fIx : List Str → Str → Nat
  | [], _ => 0
  | g :: fs, f => if g = f then 0 else fIx fs f + 1
theorem put_old {f : Str} {y : V} : ∀ {fs : List Str} {vs : List V}, noF fs f = false → fs.length = vs.length → putF f y (fs.zip vs) = fs.zip (vs.set (fIx fs f) y)
  | [], [], h, _ => by cases h
  | g :: fs, v :: vs, h, l => by
    show (if g = f then (g, y) :: fs.zip vs else (g, v) :: putF f y (fs.zip vs)) = _
    unfold fIx
    by_cases hg : g = f
    · rw [if_pos hg, if_pos hg]
      rfl
    · rw [if_neg hg, if_neg hg]
      have h2 : noF fs f = false := by
        unfold noF at h ⊢
        rw [List.any_cons] at h
        have e : (f == g) = false := by
          cases z : f == g with
          | false => rfl
          | true => exact absurd (beq_iff_eq.1 z).symm hg
        rw [e, Bool.false_or] at h
        exact h
      rw [put_old (fs := fs) (vs := vs) h2 (by simpa using l)]
      rfl
  | [], _ :: _, _, l => by cases l
  | _ :: _, [], _, l => by cases l
def putN (fs : List Str) (f : Str) : List Str := if noF fs f = true then fs ++ [f] else fs
def putD (fs : List Str) (ds : List D) (f : Str) (d : D) : List D := if noF fs f = true then ds ++ [d] else ds.set (fIx fs f) d
theorem put_any {f : Str} {y : V} {d : D} {fs : List Str} {ds : List D} {vs : List V} (l : fs.length = ds.length) (il : IsL K F ds vs) (iy : Is K F d y) : ∃ ws, putF f y (fs.zip vs) = (putN fs f).zip ws ∧ (putN fs f).length = (putD fs ds f d).length ∧ IsL K F (putD fs ds f d) ws := by
  unfold putN putD
  cases e : noF fs f with
  | true => exact ⟨_, put_new e (l.trans il.length), by simp [l], il.app (IsL.cons iy IsL.nil)⟩
  | false => exact ⟨_, put_old e (l.trans il.length), by simp [l], il.set _ iy⟩
/-- a cell of an instance frozen -/
theorem frz_ins (ok : Ok K F M H) {q C : Addr} {fs : List Str} {ds : List D} (hm : M q = some (.ins C fs ds)) : ∃ F', Ok K F' (mdel M q) H ∧ Stp F M H F' (mdel M q) H ∧ Is K F' (.ins C fs ds) (.ref q) := by
  obtain ⟨dx, vs, hH, l, il⟩ := insc_of ok hm
  have hF : F q = none := (ok.mem q _ hm).1
  refine ⟨upd F q (.ins C dx (fs.zip vs)), ⟨fun x u e => ?_, fun x m e => ?_⟩, ⟨same_new hF, fun x u e => ?_, fun x u e _ => e, fun x m n => ?_, fun x n => n⟩, is_ins.2 ⟨q, dx, vs, rfl, upd_same, l, il.mono (same_new hF)⟩⟩
  · by_cases z : x = q
    · subst z; rw [upd_same] at e; cases e; exact .inl hH
    · rw [upd_ne z] at e; exact ok.sub x u e
  · by_cases z : x = q
    · rw [z, mdel_same] at e; cases e
    · rw [mdel_ne z] at e
      obtain ⟨g1, w, g2, g3⟩ := ok.mem x m e
      exact ⟨by rw [upd_ne z]; exact g1, w, g2, g3.mono (same_new hF)⟩
  · by_cases z : x = q
    · subst z; exact .inr (.inr (by rw [hm]; simp))
    · rw [upd_ne z] at e; exact .inl e
  · by_cases z : x = q
    · rw [z, mdel_same]
    · rw [mdel_ne z]; exact m
end
section
variable {X : Cx} {a b e e2 o tg : Expr} {es tgs : List Expr} {Δ : DS} {M : Store} {k : DK} {kb : BK} {ka : AK} {ks : KS} {p pos apos : Pos} {x f m : Str} {C : Addr} {n : Nat} {sp : SpD}
/-! ### attribute targets -/
def gAttr (K : PySem.W.Frag) (to : TE) (f : Str) : TG := fun v σ H Q => to σ H fun x H1 => ∃ a C dx fs, x = .ref a ∧ H1 a = some (.ins C dx fs) ∧ Cls K C ∧ NoAttr K C f ∧ fs.length < 1000 ∧ Q σ (upd H1 a (.ins C dx (putF f v fs)))
theorem pg_attr {to : TE} (ho : PE X o to) : PG X (.Attribute o f pos) (gAttr X.K to f) := by
  refine ⟨fun pins s σ H v u Q I r h => ?_⟩
  rw [PySem.assign_Attribute]
  refine wpAny_bind (wpAny_holding (thn (ho.run pins s σ H _ I h) fun ov s1 ⟨x, H1, I1, r1, a, C, dx, fs, ex, ea, c, n, l, q⟩ => ?_))
  subst ex
  obtain rfl : ov = Value.ref a := r1
  refine wpAny_bind (wpAny_standAt (wpAny_bind (wpAny_holding (setattr_ok I1 ea c n l r fun s3 I3 => ?_))))
  exact wpAny_release ⟨σ, _, I3, q⟩
/-- targets that write -/
def GwD (X : Cx) (tg : Expr) (d : D) (Δ : DS) (M : Store) (k : DS → Store → Prop) : Prop := ∀ F H σ v (Q : L2.St → Hp → Prop), IsS X.K F Δ σ → Ok X.K F M H → Is X.K F d v →
  (∀ Δ' M' F' H' σ', k Δ' M' → Stp F M H F' M' H' → Ok X.K F' M' H' → IsS X.K F' Δ' σ' → Q σ' H') → SemG X tg v σ H Q
def SemGs (X : Cx) (tgs : List Expr) : TGs := fun vs σ H Q => ∀ pins s us, Inv X pins σ H s → Vals vs us → wpAny (model X.prog X.w) X.A (assignInOrder ((assignEach tgs X.env).map (·.2)) us) (fun _ s' => ∃ σ' H', Inv X pins σ' H' s' ∧ Q σ' H') X.xe s
def GwsD (X : Cx) (tgs : List Expr) (ds : List D) (Δ : DS) (M : Store) (k : DS → Store → Prop) : Prop := ∀ F H σ vs (Q : L2.St → Hp → Prop), IsS X.K F Δ σ → Ok X.K F M H → IsL X.K F ds vs →
  (∀ Δ' M' F' H' σ', k Δ' M' → Stp F M H F' M' H' → Ok X.K F' M' H' → IsS X.K F' Δ' σ' → Q σ' H') → SemGs X tgs vs σ H Q
theorem gw_attr {kd : DS → Store → Prop} {d : D} (h : EvD X o Δ M fun r M1 => ∃ q C fs ds, r = .cell q ∧ M1 q = some (.ins C fs ds) ∧ Cls X.K C ∧ NoAttr X.K C f ∧ fs.length < 1000 ∧ kd Δ (mup M1 q (.ins C (putN fs f) (putD fs ds f d)))) : GwD X (.Attribute o f pos) d Δ M kd := fun F H σ v Q hS ok iv post =>
  semG_of (pg_attr pe_sem) (h F H σ _ hS ok fun r M1 F1 H1 u ⟨q, C, fs, ds, er, hm, hc, hn, hl, hk⟩ st ok1 i1 => by
    subst er
    obtain ⟨dx, vs, hH, l, il⟩ := insc_of ok1 hm
    obtain ⟨ws, e1, e2, e3⟩ := put_any (f := f) l il (iv.mono st.ext)
    refine ⟨q, C, dx, _, is_cell.1 i1, hH, hc, hn, ?_, ?_⟩
    · rw [List.length_zip, ← il.length, ← l]; omega
    · have w := ok1.write (m := .ins C (putN fs f) (putD fs ds f d)) (o := .ins C dx (putF f v (fs.zip vs))) hm ⟨dx, ws, by rw [e1], e2, e3⟩
      exact post _ _ F1 _ σ hk (st.trans w.2) w.1 (hS.mono st.ext))
/-- target = value, attributes too -/
theorem s_asw (h : EvD X e Δ M fun d M1 => GwD X tg d Δ M1 ks.nx) (hs : swapsWithSole [tg] e pos.line X.env = pure false := by rfl) (hw : swappedStores [tg] e X.env = pure none := by rfl)
    (h1 : (assignEach [tg] X.env).map (·.2) = [assign tg X.env] := by rfl) : StD X (.Assign [tg] e pos) Δ M ks := fun F H σ Q hS ok post =>
  semS_of (ps_asg pe_sem pg_sem hs hw h1) (h F H σ _ hS ok fun d M1 F1 H1 v g st ok1 i => g F1 H1 σ v _ (hS.mono st.ext) ok1 i fun Δ2 M2 F2 H2 σ2 q s2 ok2 hS2 => post.nx Δ2 M2 F2 H2 σ2 q (st.trans s2) ok2 hS2)
/-! ### keywords -/
def SemK (X : Cx) (kws : List Keyword) : TA := fun σ H Q => ∀ pos pins s, Inv X pins σ H s → wpAny (model X.prog X.w) X.A (evalAll ((backToKw pos (keywordEach kws X.env)).map (·.2))) (AP X pins σ Q) X.xe s
theorem pk_sem {kws : List Keyword} : PK X kws (SemK X kws) := ⟨fun pos pins s _ _ _ I h => h pos pins s I⟩
def EvK (X : Cx) (kws : List Keyword) (Δ : DS) (M : Store) (k : AK) : Prop := ∀ F H σ (Q : List V → Hp → Prop), IsS X.K F Δ σ → Ok X.K F M H → PostA X.K F M H k Q → SemK X kws σ H Q
theorem ek_nil (h : ka [] M) : EvK X [] Δ M ka := fun F H σ Q hS ok post pos pins s I => pk_nil.run pos pins s σ H Q I (post [] M F H [] h Stp.refl ok IsL.nil)
theorem ek_cons {nm : Option Str} {kpos : Pos} {kws : List Keyword} (h : EvD X e Δ M fun d M1 => EvK X kws Δ M1 fun ds M2 => ka (d :: ds) M2) : EvK X (⟨nm, e, kpos⟩ :: kws) Δ M ka := fun F H σ Q hS ok post pos pins s I =>
  (pk_cons pe_sem pk_sem).run pos pins s σ H Q I (h F H σ _ hS ok fun d M1 F1 H1 v hk st ok1 i => hk F1 H1 σ _ (hS.mono st.ext) ok1 fun ds M2 F2 H2 vs q s2 ok2 il => post (d :: ds) M2 F2 H2 (v :: vs) q (st.trans s2) ok2 (IsL.cons (i.mono s2.ext) il))
end
section
variable {P : Program} {w : World} {K : PySem.W.Frag} {mg : Str → Option Value} {base : Heap}
/-- a class that can be made: dv the defaults that fill up -/
structure MakD (P : Program) (w : World) (K : PySem.W.Frag) (mg : Str → Option Value) (base : Heap) (x : Str) (C : Addr) (n : Nat) (dv : List D) (sp : SpD) : Prop where
  ex : ∃ f fd ps ds dvs, Mk K C f ∧ FnOk P w K mg base CX0 n f fd ps (spOf K sp) ∧ mg x = some (.ref C) ∧ Binds K fd ps ds ∧ Vals dvs ds ∧ ∀ F, IsL K F dv dvs
/-- .. by keywords: na values, then those named ks -/
structure MakK (P : Program) (w : World) (K : PySem.W.Frag) (mg : Str → Option Value) (base : Heap) (x : Str) (C : Addr) (n na : Nat) (ks : List Str) (gD : List D → List D → List D) (sp : SpD) : Prop where
  ex : ∃ f fd ps g gV, Mk K C f ∧ FnOk P w K mg base CX0 n f fd ps (spOf K sp) ∧ mg x = some (.ref C) ∧ KBn K fd ps (na + 1) ks g gV ∧ ∀ F ds vs es ws, IsL K F ds vs → IsL K F es ws → IsL K F (gD ds es) (gV vs ws)
/-- a def called by keywords -/
structure CalK (P : Program) (w : World) (K : PySem.W.Frag) (mg : Str → Option Value) (base : Heap) (x : Str) (n na : Nat) (ks : List Str) (gD : List D → List D → List D) (sp : SpD) : Prop where
  ex : ∃ f fd ps g gV, FnOk P w K mg base CX0 n f fd ps (spOf K sp) ∧ mg x = some (.ref f) ∧ PySem.W.keepIn K (.ref f) = true ∧ KBn K fd ps na ks g gV ∧ ∀ F ds vs es ws, IsL K F ds vs → IsL K F es ws → IsL K F (gD ds es) (gV vs ws)
structure MethK (P : Program) (w : World) (K : PySem.W.Frag) (mg : Str → Option Value) (base : Heap) (C : Addr) (m : Str) (n na : Nat) (ks : List Str) (gD : List D → List D → List D) (sp : SpD) : Prop where
  ex : ∃ f fd ps g gV, FnOk P w K mg base CX0 n f fd ps (spOf K sp) ∧ Meth K C m f ∧ KBn K fd ps (na + 1) ks g gV ∧ ∀ F ds vs es ws, IsL K F ds vs → IsL K F es ws → IsL K F (gD ds es) (gV vs ws)
end
section
variable {X : Cx} {a b e e2 o tg : Expr} {es tgs : List Expr} {Δ : DS} {M : Store} {k : DK} {kb : BK} {ka : AK} {ks : KS} {p pos apos : Pos} {x f m : Str} {C : Addr} {n : Nat} {sp : SpD} {dv : List D} {kws : List Keyword} {kn : List Str} {gD : List D → List D → List D}
/-- what is asked of a new instance -/
def NewI (C : Addr) (sp : SpD) (k : DK) (args : Addr → List D) (M : Store) : Prop := ∀ q, M q = none → sp (args q) (mup M q (.ins C [] [])) fun d M2 => d = .non ∧ k (.cell q) M2
theorem new_of {F H : Hp} {Q : VK} {args : Addr → List D} {vargs : Addr → List V} (ok : Ok X.K F M H) (h : NewI C sp k args M) (post : Post X.K F M H k Q) (il : ∀ q, IsL X.K F (args q) (vargs q)) (x dx : Addr) (hx : H x = none) (hdx : H dx = none) (hne : dx ≠ x) :
    spOf X.K sp (vargs x) (upd (upd H dx (.own x)) x (.ins C dx [])) (fun v H2 => v = .non ∧ Q (.ref x) H2) E0 := by
  have j := ok.junk (o := .own x) hdx
  have hx2 : upd H dx (.own x) x = none := by rw [upd_ne (Ne.symm hne)]; exact hx
  have c := j.1.cell (m := .ins C [] []) (o := .ins C dx []) hx2 ⟨dx, [], rfl, rfl, IsL.nil⟩
  refine ⟨args x, F, _, _, il x, c.1, h x (ok.fresh hx).2, fun d M2 F2 H2 v ⟨ed, hk⟩ st ok2 i => ?_⟩
  subst ed
  exact ⟨is_non.1 i, post (.cell x) M2 F2 H2 (.ref x) hk ((j.2.trans c.2).trans st) ok2 (is_cell.2 rfl)⟩
theorem ev_make (mk : MakD X.prog X.w X.K X.mg X.base x C n dv sp) (hr : Room (n + 1) X.A) (hg : Gl X x) (h : EvA X (e :: es) Δ M fun ds M1 => NewI C sp k (fun q => .cell q :: (ds ++ dv)) M1) (hdb : (x == ("__debug__" : Str)) = false := by decide)
    (he : starEach (e :: es) X.env = (false, eval e X.env) :: starEach es X.env := by rfl) (hpl : (backTo pos (starEach es X.env)).any (·.1) = false := by rfl) : EvD X (.Call (.Name x p) (e :: es) [] pos) Δ M k := fun F H σ Q hS ok post => by
  obtain ⟨f, fd, ps, ds0, dvs, hM, hF, hm, hb, hv, hi⟩ := mk.ex
  refine sem_of (pe_make (E := E0) hM hF hr hg hm hb hv pass0 pa_sem hdb he hpl) (h F H σ _ hS ok fun ds M1 F1 H1 vs q st ok1 il => ?_)
  exact new_of (vargs := fun r => V.ref r :: (vs ++ dvs)) ok1 q (post.step st) fun r => IsL.cons (is_cell.2 rfl) (il.app (hi F1))
/-- a new instance handed on frozen -/
theorem ev_frzI (h : EvD X e Δ M fun d M1 => ∃ q C fs ds, d = .cell q ∧ M1 q = some (.ins C fs ds) ∧ k (.ins C fs ds) (mdel M1 q)) : EvD X e Δ M k := fun F H σ Q hS ok post =>
  h F H σ Q hS ok fun d M1 F1 H1 v ⟨q, C, fs, ds, ed, hm, hk⟩ st ok1 i => by
    subst ed
    rw [is_cell.1 i]
    obtain ⟨F2, ok2, s2, i2⟩ := frz_ins ok1 hm
    exact post _ _ F2 H1 _ hk (st.trans s2) ok2 i2
/-! ### calls by keywords -/
end
end DL
end
section
set_option Elab.async false
set_option linter.all false
set_option maxRecDepth 100000
namespace DL
open PySem L2
/-- an own class, as isinstance wants it -/
structure TyC (K : PySem.W.Frag) (C : Addr) : Prop where
  cl : Cls K C
  ha : PySem.W.findIn K (.ref C) "__class__" = some (some (.builtin "object.__class__"))
  hn : PySem.W.specialIn K (.builtin "object.__class__") "__get__" = some (some (.builtin "getset_descriptor.__get__"))
  htk : PySem.W.takesIn K (.builtin "object.__class__") = some true
  hm : PySem.W.mroIn K C (.type "object") = some true
/-- a value's type, own ones too -/
def TyV (K : PySem.W.Frag) (M : Store) (d : D) (t : Value) : Prop := (∃ s, tyD d = some s ∧ t = .type s) ∨ ∃ C fs ds, insD M d = some (C, fs, ds) ∧ TyC K C ∧ t = .ref C
theorem tyV_of {K : PySem.W.Frag} {F H : Hp} {M : Store} (ok : Ok K F M H) {d : D} {t : Value} {v : V} (h : TyV K M d t) (i : Is K F d v) : TyX K H v t := by
  rcases h with ⟨s, h1, rfl⟩ | ⟨C, fs, ds, h1, c, rfl⟩
  · exact ty_of ok h1 i
  · obtain ⟨q, dx, vs, rfl, hq, _, _⟩ := ins_of ok h1 i
    exact .base (.ins hq c.cl c.ha c.hn c.htk c.hm)
section
variable {X : Cx} {a b e e2 o : Expr} {es : List Expr} {Δ : DS} {M : Store} {k : DK} {kb : BK} {ka : AK} {p pos apos : Pos} {x f m : Str} {C : Addr} {n : Nat} {sp : SpD}
theorem ev_isiO (hg : Gl X "isinstance") (hm : X.mg "isinstance" = none) (h : EvD X e Δ M fun d M1 => EvD X e2 Δ M1 fun d2 M2 => ∃ t C c, TyV X.K M2 d t ∧ d2 = .cell C ∧ PySem.W.kitOne X.K t (.ref C) = some c ∧ k (.bl c) M2) (hs : starEach [e, e2] X.env = (false, eval e X.env) :: starEach [e2] X.env := by rfl) (hs2 : starEach [e2] X.env = [(false, eval e2 X.env)] := by rfl) (hpl : (backTo pos (starEach [e2] X.env)).any (·.1) = false := by rfl) : EvD X (.Call (.Name "isinstance" p) [e, e2] [] pos) Δ M k :=
  ev_callB call_isi hg hm (by decide +kernel) (by decide) (by decide) hs hpl (two2 (h.mono fun d M1 q => q.mono fun d2 M2 ⟨t, C, c, h1, h2, h3, hk⟩ F H vs Q ok i post => by
    obtain ⟨v, v2, rfl, i1, i2⟩ := isL2 i
    subst h2
    rw [is_cell.1 i2]
    exact ⟨v, .ref C, t, .ref C, c, rfl, .own C, tyV_of ok h1 i1, h3, post.here ok hk (is_bl.2 rfl)⟩) hs hs2)
/-! ### own ==, != -/
end
section
variable {prog : Program} {w : World} {A : Around} {E : Value → Shared → Prop} {s : Shared} {K : PySem.W.Frag} {x C f : Addr} {ox : Obj} {od : Option Obj} {b : Value}
end
section
variable {X : Cx} {a b e e2 o : Expr} {es : List Expr} {Δ : DS} {M : Store} {k : DK} {kb : BK} {ka : AK} {p pos apos : Pos} {x f m : Str} {C : Addr} {n : Nat} {sp : SpD}
end
end DL
end
section
set_option Elab.async false
set_option linter.all false
set_option maxRecDepth 100000
namespace DRv
open PySem PySem.Spec PyProof.Rows HT
section
variable {prog : Program} {w : World} {A : Around} {E : Value → Shared → Prop} {s : Shared}
theorem applied {sl : Addr} {vl vu vs : Value} {n : Nat} {Q : Int × Int × Nat → Shared → Prop} (hs : s.heap.IsSliceOf sl vl vu vs) (pl : IsPart vl none) (pu : IsPart vu none) (ps : IsPart vs (some (-1)))
    (h : Q ((n : Int) - 1, -1, n) s) : wpAny (model prog w) A (Builtin.Slice.sliceApplied (.ref sl) (pure (n : Int))) Q E s := by
  obtain ⟨os, hos, hcs, hds⟩ := id hs
  unfold Builtin.Slice.sliceApplied Builtin.Slice.sliceFields
  refine wpAny_bind (wpAny_bind (wpAny_field hos hds (x := vl) rfl (wpAny_bind (wpAny_field hos hds (x := vu) rfl (wpAny_bind (wpAny_field hos hds (x := vs) rfl (wpAny_pure ?_)))))))
  refine wpAny_bind (slicePart_ ps ?_)
  show wpAny _ _ (if ((-1 : Int) == 0) = true then _ else _) _ _ s
  rw [if_neg (by decide)]
  refine wpAny_bind (slicePart_ pl (wpAny_bind (slicePart_ pu (wpAny_bind (wpAny_pure ?_)))))
  show wpAny _ _ (pure ((n : Int) - 1, (-1 : Int), Builtin.Slice.slicePlaces ((n : Int) - 1) (-1) (-1))) _ _ s
  have e : Builtin.Slice.slicePlaces ((n : Int) - 1) (-1) (-1) = n := by
    unfold Builtin.Slice.slicePlaces
    simp only [show ¬ ((-1 : Int) > 0) by omega, if_false]
    rw [show (-(-1) : Int) = 1 by omega, Int.ediv_one]
    split <;> omega
  rw [e]
  exact wpAny_pure h
theorem pick (xs : Array Value) : ((List.range xs.size).filterMap fun (m : Nat) => xs[(((xs.size : Nat) : Int) - 1 + (m : Int) * (-1)).toNat]?) = xs.toList.reverse := by
  have e : ∀ m ∈ List.range xs.size, (fun (m : Nat) => xs[(((xs.size : Nat) : Int) - 1 + (m : Int) * (-1)).toNat]?) m = (fun m => xs.toList.reverse[m]?) m := by
    intro m hm
    have hm' : m < xs.size := List.mem_range.1 hm
    have e1 : (((xs.size : Nat) : Int) - 1 + (m : Int) * (-1)).toNat = xs.size - 1 - m := by omega
    show xs[_]? = xs.toList.reverse[m]?
    rw [e1, List.getElem?_reverse (by rw [Array.length_toList]; exact hm'), Array.length_toList, Array.getElem?_toList]
  have cong : ∀ (l : List Nat) (f g : Nat → Option Value), (∀ m ∈ l, f m = g m) → l.filterMap f = l.filterMap g := fun l f g => by
    induction l with
    | nil => intro _; rfl
    | cons m l ih =>
      intro h
      rw [List.filterMap_cons, List.filterMap_cons, h m (List.mem_cons_self ..), ih fun m hm => h m (List.mem_cons_of_mem _ hm)]
  rw [cong _ _ _ e]
  have hl : xs.size = xs.toList.reverse.length := by rw [List.length_reverse, Array.length_toList]
  rw [hl]
  generalize xs.toList.reverse = ys
  induction ys with
  | nil => rfl
  | cons y ys ih =>
    rw [List.length_cons, List.range_succ_eq_map, List.filterMap_cons]
    show y :: List.filterMap _ _ = _
    rw [List.filterMap_map]
    exact congrArg (y :: ·) ih
theorem getItem_rev {t sl : Addr} {items : Array Value} {vl vu vs : Value} {Q : Value → Shared → Prop} (ht : IsTup s.heap t items) (hs : s.heap.IsSliceOf sl vl vu vs) (pl : IsPart vl none) (pu : IsPart vu none) (ps : IsPart vs (some (-1)))
    (h : Q (.ref s.heap.objs.size) { s with heap := s.heap.push { cls := .type "tuple", data := .seq items.toList.reverse.toArray } })
    (hsz : items.size ≤ sizeLine) : wpAny (model prog w) A (getItem (.ref t) (.ref sl)) Q E s := by
  have htake : sizeOk (.seq items.toList.reverse.toArray) := by
    show items.toList.reverse.toArray.size ≤ sizeLine
    rw [List.size_toArray, List.length_reverse, Array.length_toList]
    exact hsz
  obtain ⟨os, hos, hcs, hds⟩ := id hs
  have hTs : s.TypeIs (.ref sl) "slice" := ⟨os, hos, hcs⟩
  unfold getItem
  try with_reducible refine wpAny_holding ?_
  first | refine wpAny_bind (wpAny_pure ?_) | skip
  refine wpAny_bind (wpAny_sequenceKey ht.typeIs (by decide) ?_)
  refine wpAny_bind (wpAny_callSpecial?_slot (name := Str.ofString "__getitem__") ht.typeIs PyProof.Rows.slot_tuple_getitem
    (wpAny_call_entry PyProof.Rows.slot_tuple_getitem ht.typeIs entry_tuple_getitem ?_ (args_tuple_getitem _ _)))
  show wpAny _ _ (Builtin.Tuple.tupleItemsOf (.ref t) >>= _) _ _ s
  refine wpAny_bind (tupleItemsOf_ ht ?_)
  refine wpAny_bind (wpAny_typeOf hTs ?_)
  rw [if_pos (by decide)]
  refine wpAny_bind (applied hs pl pu ps ?_)
  have hno : ¬ (((((items.size : Nat) : Int) - 1) == 0 && (-1 : Int) == 1 && items.size == items.size) = true) := by
    intro q
    rw [Bool.and_eq_true, Bool.and_eq_true] at q
    have q1 : (-1 : Int) = 1 := eq_of_beq q.1.2
    omega
  show wpAny _ _ (if ((((items.size : Nat) : Int) - 1) == 0 && (-1 : Int) == 1 && items.size == items.size) = true then _ else _) _ _ s
  rw [if_neg hno, pick]
  first
    | exact wpAny_bind (m := Builtin.Tuple.tupleExact _) (wpAny_newObj_type (wpAny_pure ⟨_, rfl, wpAny_pure h⟩) htake)
    | exact wpAny_bind (m := Builtin.Tuple.tupleExact _) (wpAny_newObj_type (wpAny_bind (wpAny_pure (wpAny_pure ⟨_, rfl, wpAny_pure h⟩))) htake)
    | exact wpAny_bind (wpAny_bind (m := Builtin.Tuple.tupleExact _) (wpAny_newObj_type (wpAny_pure (wpAny_pure ⟨_, rfl, wpAny_pure h⟩)) htake))
    | exact wpAny_bind (wpAny_bind (m := Builtin.Tuple.tupleExact _) (wpAny_newObj_type (wpAny_pure ⟨_, rfl, wpAny_pure h⟩) htake))
end
end DRv
namespace DL
open PySem L2 PyProof.Rows
def tRevT (K : PySem.W.Frag) (te : TE) : TE := fun σ H Q => te σ H fun x H1 => ∃ a xs, x = .ref a ∧ SqT K H1 a xs ∧ NewT H1 xs.reverse Q
section
variable {X : Cx} {a b e e2 o : Expr} {es : List Expr} {Δ : DS} {M : Store} {k : DK} {kb : BK} {ka : AK} {p pos apos : Pos} {x f m : Str} {C : Addr} {n : Nat} {sp : SpD}
theorem pe_revT {te : TE} {k : Nat} {p1 p2 p3 pos : Pos} (he : PE X e te) : PE X (.Subscript e (.Slice none none (some (.UnaryOp .USub (.Constant (.int 1) k p1) p2)) p3) pos) (tRevT X.K te) := by
  refine ⟨fun pins s σ H Q I h => ?_⟩
  refine Subscript_ (thn (he.run pins s σ H _ I h) fun v s1 ⟨x, H1, I1, r1, q1⟩ => ?_)
  obtain ⟨a, xs, ex, hx, q⟩ := q1
  subst ex
  cases r1
  have hst : PO X (some (.UnaryOp .USub (.Constant (.int 1) k p1) p2)) (tPart (tUn (rU fun i => .int (-i)) (tC (.int 1)))) := po_some (pe_un un_neg pe_int)
  refine wpAny_Slice (thn (po_none.run pins s1 σ H1 (fun o H2 => o = none ∧ H2 = H1) I1 ⟨rfl, rfl⟩) fun vl s2 ⟨l, H2, I2, pl, el, e2⟩ => ?_)
  subst el e2
  refine thn (po_none.run pins s2 σ H2 (fun o H3 => o = none ∧ H3 = H2) I2 ⟨rfl, rfl⟩) fun vu s3 ⟨u, H3, I3, pu, eu, e3⟩ => ?_
  subst eu e3
  refine thn (hst.run pins s3 σ H3 (fun o H4 => o = some (-1) ∧ H4 = H3) I3 ⟨1, rfl, -1, rfl, rfl, rfl⟩) fun vs s4 ⟨o, H4, I4, ps, eo, e4⟩ => ?_
  subst eo e4
  have I5 : Inv X pins σ H4 { s4 with heap := s4.heap.push { cls := .type "slice", data := .fields #[vl, vu, vs] } } := I4.kept (t' := s4.toks) fun b ob q => Heap.get?_push_of_some _ q
  obtain ⟨its, r, ht, hz⟩ := I5.tuple hx
  have hlen := r.length
  show wpAny (model X.prog X.w) X.A (subscriptTail e (.Slice none none (some (.UnaryOp .USub (.Constant (.int 1) k p1) p2)) p3) (.ref a) (.ref s4.heap.objs.size)) (EP X pins σ Q) X.xe { s4 with heap := s4.heap.push { cls := .type "slice", data := .fields #[vl, vu, vs] } }
  refine tail_any (ops := [.ref a, .ref s4.heap.objs.size]) ht.typeIs (PyProof.Rows.slot_tuple_getitem.lookup) ?_ (by with_unfolding_all rfl)
  refine DRv.getItem_rev ht (Heap.IsSliceOf.new _ vl vu vs) pl pu ps ?_ (by rw [List.size_toArray]; omega)
  exact bare_push (t := s4.toks) I5 (fun _ _ e => e) (Nat.le_refl _) r.reverse (by rw [List.length_reverse]; exact hz) q
/-- t[::-1] of a tuple -/
theorem ev_revT {j : Nat} {p1 p2 p3 : Pos} (h : EvD X a Δ M fun d M1 => ∃ ds, d = .tup ds ∧ k (.tup ds.reverse) M1) : EvD X (.Subscript a (.Slice none none (some (.UnaryOp .USub (.Constant (.int 1) j p1) p2)) p3) pos) Δ M k := fun F H σ Q hs ok post =>
  sem_of (pe_revT pe_sem) (h F H σ _ hs ok fun d M1 F1 H1 v ⟨ds, h1, hk⟩ st ok1 i => by
    subst h1
    obtain ⟨q, vs, e, hq, hl⟩ := is_tup.1 i
    refine ⟨q, vs, e, ok1.sqT hq, fun r ob hr hd => ?_⟩
    have nw := ok1.new (o := .frz ob (.tup vs.reverse)) hr
    exact post _ M1 _ _ _ hk (st.trans nw.2) nw.1 (is_tup.2 ⟨r, _, rfl, .inl ⟨ob, hd, upd_same⟩, (hl.rev).mono nw.2.ext⟩))
/-! ### list(text), tuple(text), sep.join(texts) -/
theorem signs_vals {x : Str} {acc : Array Value} (h : ItemsOf (SignAt x) acc x.cps.size) : ∃ vs : List V, Vals vs acc.toList ∧ ∀ (K : PySem.W.Frag) (F : Hp), IsL K F (signs x) vs := by
  refine ⟨x.cps.toList.map fun c => V.str ⟨#[c]⟩, ?_, fun K F => ?_⟩
  · have e : acc.toList.length = x.cps.toList.length := by rw [Array.length_toList, h.1, Array.length_toList]
    have g : ∀ (i : Nat) (v : Value), acc.toList[i]? = some v → ∃ c u, x.cps.toList[i]? = some c ∧ v = .str ⟨#[c]⟩ u := fun i v hv => by
      obtain ⟨c, u, h1, h2⟩ := h.2 i v (by rw [← Array.getElem?_toList]; exact hv)
      exact ⟨c, u, by rw [Array.getElem?_toList]; exact h1, h2⟩
    generalize acc.toList = as at e g
    generalize x.cps.toList = cs at e g
    induction cs generalizing as with
    | nil =>
      cases as with
      | nil => exact .nil
      | cons _ _ => cases e
    | cons c cs ih =>
      cases as with
      | nil => cases e
      | cons u as =>
        obtain ⟨c', t, h1, h2⟩ := g 0 u rfl
        cases h1
        exact .cons ⟨t, h2⟩ (ih as (by simpa using e) fun i v hv => g (i + 1) v hv)
  · unfold signs
    generalize x.cps.toList = cs
    induction cs with
    | nil => exact IsL.nil
    | cons c cs ih => exact IsL.cons (is_str.2 rfl) ih
theorem cr_listS (hc : X.calm = true) : CallR X (.type "list") (fun xs H Q => ∃ z : Str, xs = [.str z] ∧ z.cps.size ≤ sizeLine ∧ ∀ vs l, (∀ (K : PySem.W.Frag) (F : Hp), IsL K F (signs z) vs) → H l = none → Q (.ref l) (upd H l (.lst vs))) := by
  intro pins s σ H xs us Q I r h
  obtain ⟨z, rfl, hz, q⟩ := h
  obtain ⟨u, rfl, rx⟩ := vals1 r
  obtain ⟨t, rfl⟩ := rx
  refine call_list_str (I.ok.hd hc) z t (fun h' tk acc c' kp e ha => ?_) hz
  obtain ⟨vs, rv, iv⟩ := signs_vals ha
  have hl : vs.length ≤ sizeLine := by rw [rv.length, Array.length_toList, ha.1]; exact hz
  exact ⟨.ref s.heap.objs.size, _, I.laid (t' := tk) kp (Nat.le_refl _) (show ObjOk X.prog X.w _ h' _ (.lst vs) from ⟨hl, acc.toList, c', rv, by simpa using e⟩), rfl, q vs _ iv (I.hok.fresh (Nat.le_refl _))⟩
theorem cr_tupleS (hc : X.calm = true) : CallR X (.type "tuple") (fun xs H Q => ∃ z : Str, xs = [.str z] ∧ z.cps.size ≤ sizeLine ∧ ∀ vs, (∀ (K : PySem.W.Frag) (F : Hp), IsL K F (signs z) vs) → NewT H vs Q) := by
  intro pins s σ H xs us Q I r h
  obtain ⟨z, rfl, hz, q⟩ := h
  obtain ⟨u, rfl, rx⟩ := vals1 r
  obtain ⟨t, rfl⟩ := rx
  refine call_tuple_str (I.ok.hd hc) z t (fun h' tk acc kp ha => ?_) hz
  obtain ⟨vs, rv, iv⟩ := signs_vals ha
  have hl : vs.length ≤ sizeLine := by rw [rv.length, Array.length_toList, ha.1]; exact hz
  have I1 : Inv X pins σ H { s with heap := h', toks := tk } := I.kept (t' := tk) kp
  have z := bare_push (t := tk) I1 (fun _ _ e => e) (Nat.le_refl _) rv hl (q vs iv)
  simpa using z
/-- sep.join(texts) -/
theorem ev_join (h : EvD X o Δ M fun d M1 => ∃ z : Str, d = .str z ∧ EvD X e Δ M1 fun d2 M2 => ∃ ys : List Str, seqD M2 d2 = some (ys.map D.str) ∧ (ys.map (·.length)).sum + ys.length * z.length ≤ 16777216 ∧ k (.str (Txt.join z ys)) M2)
    (hs : starEach [e] X.env = [(false, eval e X.env)] := by rfl) (hbase : attributeBase o "join" X.env (eval o X.env) = eval o X.env := by rfl) (hline : (apos.endLine == pos.line) = true := by rfl) : EvD X (.Call (.Attribute o "join" apos) [e] [] pos) Δ M k := fun F H σ Q hS ok post =>
  sem_of (L2.pe_join pe_sem pe_sem hs hbase hline) (h F H σ _ hS ok fun d M1 F1 H1 v ⟨z, ed, hk⟩ st ok1 i => by
    subst ed
    refine ⟨⟨z, is_str.1 i⟩, hk F1 H1 σ _ (hS.mono st.ext) ok1 fun d2 M2 F2 H2 u ⟨ys, h1, hz, q⟩ st2 ok2 i2 => ?_⟩
    obtain ⟨l, vs, rfl, hq, hl⟩ := seq_of ok2 h1 i2
    rw [(IsL.strs ys).1 hl] at hq
    exact ⟨z, l, ys, is_str.1 i, rfl, hq, hz, post _ M2 F2 H2 _ q (st.trans st2) ok2 (is_str.2 rfl)⟩)
end
end DL
end
section
set_option Elab.async false
set_option linter.all false
set_option maxRecDepth 100000
namespace DL
open PySem L2 PyProof.Rows
/-! ### the order of texts -/
theorem ltC_irr : ∀ a : List Nat, Spec.ltCps a a = false
  | [] => rfl
  | a :: r => by
    show (decide (a < a) || (a == a && Spec.ltCps r r)) = false
    rw [ltC_irr r]; simp
def lts (x y : Str) : Bool := Spec.ltCps x.cps.toList y.cps.toList
theorem lts_irr (x : Str) : lts x x = false := ltC_irr _
/-- strictly rising -/
def SP (l : List Str) : Prop := l.Pairwise fun a b => lts a b = true
def insS (x : Str) : List Str → List Str
  | [] => [x]
  | y :: r => if lts x y = true then x :: y :: r else if lts y x = true then y :: insS x r else y :: r
def ss : List Str → List Str
  | [] => []
  | x :: r => insS x (ss r)
/-! ### finishers for texts and truths in a row -/
end DL
end
section
set_option Elab.async false
set_option linter.all false
set_option maxRecDepth 100000
namespace DL
open PySem L2 PyProof.Rows
/-! ### finishers for rows of texts, of truths -/
def NmL (xs : List Str) : Prop := ∀ x ∈ xs, PyData.strOk x = true ∧ x.cps.size ≤ 50
section
variable {M : Store} {k : DK} {xs ys : List Str} {bs cs : List Bool} {d : D} {x : Str}
end
/-- texts out of a written row -/
def unS : List D → Option (List Str)
  | [] => some []
  | .str x :: r => (unS r).map (x :: ·)
  | _ => none
theorem strL : ∀ {ds : List D} {xs : List Str}, unS ds = some xs → some ds = some (xs.map D.str)
  | [], _, h => by cases h; rfl
  | .str x :: r, xs, h => by
    obtain ⟨ys, h1, h2⟩ := Option.map_eq_some_iff.mp (show (unS r).map (x :: ·) = some xs from h)
    subst h2
    rw [List.map_cons, ← Option.some.inj (strL h1)]
  | .non :: _, _, h => by cases h
  | .bl _ :: _, _, h => by cases h
  | .int _ :: _, _, h => by cases h
  | .ty _ :: _, _, h => by cases h
  | .tup _ :: _, _, h => by cases h
  | .lst _ :: _, _, h => by cases h
  | .frl _ :: _, _, h => by cases h
  | .dct _ _ :: _, _, h => by cases h
  | .ins _ _ _ :: _, _, h => by cases h
  | .cell _ :: _, _, h => by cases h
  | .exc _ _ _ :: _, _, h => by cases h
/-! ### equality of data, by computing -/
/-! ### comprehensions whose parts are plain -/
section
variable {X : Cx} {tg iter elt : Expr} {ifs : List Expr} {scope : Scope} {vs : List Nat} {Δ : DS} {M : Store} {ka : AK} {α : Type}
end
end DL
end
section
set_option Elab.async false
set_option linter.all false
set_option maxRecDepth 100000
namespace DL
open PySem L2 PyProof.Rows
section
variable {P : Program} {w : World} {K : PySem.W.Frag} {mg : Str → Option Value} {base : Heap}
abbrev FnD (K : PySem.W.Frag) (x qual : Str) (st : Stmt) (dvs : List V) (f : Addr) (fd : FuncData) : Prop := FunD K x qual (defArgs st) (defBody st) (defScope st) dvs [] f fd
theorem ok_dD {x qual : Str} {st : Stmt} {f : Addr} {fd : FuncData} {N ps : List Str} {n : Nat} {sp : SpD} {dvs : List V} (Fn : FnD K x qual st dvs f fd) (S : FnScope N ps (defScope st)) (len : ∀ ds M k, sp ds M k → ds.length = ps.length)
    (hbody : ∀ (cdv : Value) (A : Around) (outer : List Env) (s : Shared) (H : Hp) (E : XK) (ds : List D) (M : Store) (k : DK), Room n (A.deeper (PyProof.Rows.envOfC qual (defScope st) s.heap.objs.size f cdv)) → sp ds M k →
      SsD (XOf P w K mg base N qual st f cdv A outer s H E) (defBody st) (startD N ds) M { nx := fun _ M' => k .non M', rt := k }) : FnOk P w K mg base CX0 (n + 1) f fd ps (spOf K sp) := by
  refine Fn.ok S (fun vs H Q E ⟨ds, F, M, k, il, ok, h, post⟩ => by rw [← il.length]; exact len ds M k h) fun cdv A outer s H vs Q E hr ⟨ds, F, M, k, il, ok, h, post⟩ => ?_
  refine ⟨_, PSs.nox pss_sem, hbody cdv A outer s H E ds M k hr h F H (L2.start N vs) _ (start_is il) ok ⟨fun Δ' M' F' H' σ' q st' ok' _ => post .non M' F' H' .non q st' ok' (is_non.2 rfl), post, fun _ _ _ _ _ q => q.elim, fun _ _ _ _ _ q => q.elim⟩⟩
/-- keywords without defaults -/
theorem kbn_of {x qual : Str} {st : Stmt} {f : Addr} {fd : FuncData} {ps : List Str} (Fn : FnD K x qual st [] f fd) (n : Nat) (ks : List Str) (g : {α : Type} → List α → List α → List α)
    (hrel : ∀ {vs zs : List V} {us ws : List Value}, Vals vs us → Vals zs ws → Vals (g vs zs) (g us ws))
    (h : ∀ (kV doc pm : Value) (an : Option Addr) (cdv ct : Value) (us ws : List Value), us.length = n → ws.length = ks.length → bindArgs (PySem.W.fnOf x qual (defArgs st) (defBody st) (defScope st) .none kV doc pm an cdv ct) ⟨us, ks.zip ws⟩ = pure (ps.zip (g us ws))) : KBn K fd ps n ks (fun us ws => g us ws) (fun vs zs => g vs zs) := by
  obtain ⟨oc, od, dV, kV, doc, pm, an, cdv, ct, osl, rfl, lk, hcd, hD, hK⟩ := Fn.ex
  rcases hD with ⟨_, rfl⟩ | ⟨e, _⟩
  · exact ⟨fun s us ws X l1 l2 => .of_eq (h kV doc pm an cdv ct us ws l1 l2), fun r1 r2 => hrel r1 r2⟩
  · exact absurd rfl e
end
section
variable {X : Cx} {Δ : DS} {M : Store} {k : DK} {pos : Pos} {x : Str}
theorem ev_gS {z : Str} (hm : ∃ t, X.mg x = some (.str z t)) (hg : Gl X x) (h : k (.str z) M) (hd : (x == ("__debug__" : Str)) = false := by decide) : EvD X (.Name x pos) Δ M k := by
  obtain ⟨t, hm⟩ := hm
  exact ev_g (v := .str z) ⟨hm, ⟨t, rfl⟩, fun F => is_str.2 rfl⟩ hg h hd
theorem ev_gI {z : Int} (hm : ∃ t, X.mg x = some (.int z t)) (hg : Gl X x) (h : k (.int z) M) (hd : (x == ("__debug__" : Str)) = false := by decide) : EvD X (.Name x pos) Δ M k := by
  obtain ⟨t, hm⟩ := hm
  exact ev_g (v := .int z) ⟨hm, ⟨t, rfl⟩, fun F => is_int.2 rfl⟩ hg h hd
theorem ev_gC {C : Addr} (hm : X.mg x = some (.ref C)) (hg : Gl X x) (h : k (.cell C) M) (hd : (x == ("__debug__" : Str)) = false := by decide) : EvD X (.Name x pos) Δ M k :=
  ev_g (v := .ref C) ⟨hm, rfl, fun F => is_cell.2 rfl⟩ hg h hd
end
theorem nm_sum : ∀ {ns : List Str}, NmL ns → (ns.map (·.length)).sum ≤ ns.length * 50
  | [], _ => by simp
  | x :: r, h => by
    have h1 := (h x (List.mem_cons_self ..)).2
    have h2 := nm_sum (ns := r) fun z hz => h z (List.mem_cons_of_mem _ hz)
    have h3 : x.length = x.cps.size := rfl
    rw [List.map_cons, List.sum_cons, List.length_cons]
    omega
theorem jsz {ns : List Str} {z : Str} (h : NmL ns) (hl : ns.length ≤ 1000) (hz : z.length ≤ 50) : (ns.map (·.length)).sum + ns.length * z.length ≤ 16777216 := by
  have h1 := nm_sum h
  have h2 : ns.length * z.length ≤ ns.length * 50 := Nat.mul_le_mul_left _ hz
  omega
theorem jsz2 {ns : List Str} {z : Str} (h : NmL ns) (hl : ns.length ≤ 1000) (hz : z.length ≤ 50) : (Txt.join z ns).length ≤ 100000 := by
  have h1 := nm_sum h
  have h2 : ns.length * z.length ≤ ns.length * 50 := Nat.mul_le_mul_left _ hz
  have h3 := StrLaws.join_length_le z ns
  have h4 : (Txt.join z ns).length ≤ (ns.map (·.length)).sum + ns.length * z.length := by rw [TL.join_eq]; exact h3
  omega
/-- what stands stays, but for u -/
def Keep (u : Addr) (M M' : Store) : Prop := ∀ q m, q ≠ u → M q = some m → M' q = some m
theorem Keep.refl {u : Addr} {M : Store} : Keep u M M := fun _ _ _ h => h
theorem Keep.trans {u : Addr} {M M1 M2 : Store} (a : Keep u M M1) (b : Keep u M1 M2) : Keep u M M2 := fun q m n h => b q m n (a q m n h)
theorem Keep.mup {u : Addr} {M : Store} {m : MO} : Keep u M (mup M u m) := fun q m' n h => by rw [mup_ne n]; exact h
theorem Keep.new {u q : Addr} {M M' : Store} {m : MO} (a : Keep u M M') (h : M q = none) : Keep u M (DL.mup M' q m) := fun r m' n e => by
  have z : r ≠ q := fun z => by rw [z, h] at e; cases e
  rw [mup_ne z]; exact a r m' n e
/-! ### new instances, frozen at once -/
def NewF (C : Addr) (sp : SpD) (k : DK) (args : Addr → List D) (M : Store) : Prop := ∀ q, M q = none → sp (args q) (mup M q (.ins C [] [])) fun d M2 => d = .non ∧ ∃ fs ds, M2 q = some (.ins C fs ds) ∧ k (.ins C fs ds) (mdel M2 q)
section
variable {X : Cx} {e : Expr} {es : List Expr} {Δ : DS} {M : Store} {k : DK} {p pos : Pos} {x : Str} {C : Addr} {n : Nat} {sp : SpD} {dv : List D} {kws : List Keyword} {kn : List Str} {gD : List D → List D → List D}
/-- a contract that may only ask for more -/
def SpMono (sp : SpD) : Prop := ∀ ds M (k k' : DK), (∀ d M', k d M' → k' d M') → sp ds M k → sp ds M k'
theorem newF_I (mo : SpMono sp) {args : Addr → List D} (h : NewF C sp k args M) : NewI C sp (fun d M1 => ∃ q C fs ds, d = .cell q ∧ M1 q = some (.ins C fs ds) ∧ k (.ins C fs ds) (mdel M1 q)) args M := fun q hq =>
  mo _ _ _ _ (fun d M' ⟨e, fs, ds, h1, h2⟩ => ⟨e, q, C, fs, ds, rfl, h1, h2⟩) (h q hq)
theorem ev_makeF (mo : SpMono sp) (mk : MakD X.prog X.w X.K X.mg X.base x C n dv sp) (hr : Room (n + 1) X.A) (hg : Gl X x) (h : EvA X (e :: es) Δ M fun ds M1 => NewF C sp k (fun q => .cell q :: (ds ++ dv)) M1) (hdb : (x == ("__debug__" : Str)) = false := by decide)
    (he : starEach (e :: es) X.env = (false, eval e X.env) :: starEach es X.env := by rfl) (hpl : (backTo pos (starEach es X.env)).any (·.1) = false := by rfl) : EvD X (.Call (.Name x p) (e :: es) [] pos) Δ M k :=
  ev_frzI (ev_make mk hr hg (fun F H σ Q hS ok post => h F H σ Q hS ok fun ds M' F' H' vs q st ok' il => post ds M' F' H' vs (newF_I mo q) st ok' il) hdb he hpl)
end
/-! ### tests of the head -/
section
open PySem.W He He5
variable {K : Frag}
end
end DL
end
section
set_option Elab.async false
set_option linter.all false
set_option maxRecDepth 100000
set_option maxHeartbeats 4000000
/-! sets of ints and texts: set(xs), sorted of it -/
namespace DSet
open PySem PySem.Spec PyProof.Rows L2
def ke (e : Int × Value) : Key := match e.2 with
  | .int i _ => .inl i
  | .str x _ => .inr x
  | _ => .inl 0
def Ge (w : World) (e : Int × Value) : Prop := ∃ c : Key, keyIs c e.2 = true ∧ e.1 = keyH w c
theorem ke_of {e : Int × Value} {c : Key} (h : keyIs c e.2 = true) : ke e = c := by
  unfold ke
  rcases keyIs_shape h with ⟨i, t, rfl, e2⟩ | ⟨x, t, rfl, e2⟩ <;> rw [e2]
theorem ke_is {w : World} {e : Int × Value} (g : Ge w e) (c : Key) : keyIs c e.2 = true ↔ ke e = c := by
  obtain ⟨d, h1, _⟩ := g
  constructor
  · exact fun h => ke_of h
  · intro h
    rw [← h, ke_of h1]
    exact h1
/-- the set at a holds just S, n of them; it can be walked -/
def SK (w : World) (h : Heap) (a : Addr) (S : Key → Bool) (n : Nat) : Prop :=
  ∃ o es ep t, h.get? a = some o ∧ o.ExactSet ∧ o.data = .set es ep t ∧ (∀ e ∈ es.toList, Ge w e) ∧ (es.toList.map ke).Nodup ∧ (∀ c, S c = true ↔ c ∈ es.toList.map ke) ∧
    es.size < scanBound ∧ t.fits es.size = true ∧ es.size = n ∧ Ris t.place.toList ∧ (w.params.followText "set-order" = true ∨ t.led = true)
section
variable {P : Program} {w : World} {h h' : Heap} {a : Addr} {S : Key → Bool} {n : Nat}
theorem SK.keep (R : SK w h a S n) (k : ∀ o, h.get? a = some o → h'.get? a = some o) : SK w h' a S n := by
  obtain ⟨ob, es, ep, t, ho, rr⟩ := R
  exact ⟨ob, es, ep, t, k ob ho, rr⟩
theorem Ge.mem {l : List (Int × Value)} (g : ∀ e ∈ l, Ge w e) (c : Key) : c ∈ l.map ke ↔ ∃ e ∈ l, (mixKind P w).is c e.2 = true := by
  rw [List.mem_map]
  constructor
  · rintro ⟨e, he, q⟩
    exact ⟨e, he, (ke_is (g e he) c).2 q⟩
  · rintro ⟨e, he, q⟩
    exact ⟨e, he, (ke_is (g e he) c).1 q⟩
end
section
variable {P : Program} {w : World} {A : Around} {E : Value → Shared → Prop} {s : Shared} {a : Addr} {S : Key → Bool} {n : Nat}
/-- the empty set as it is made -/
abbrev freshSet (w : World) : Obj := { cls := .type "set", dict := none, data := .set #[] 0 (.fresh 0 0 (!w.params.followText "set-order")) }
theorem SK.fresh {h : Heap} {cs : List Key} (ho : h.get? a = some (freshSet w)) : SK w h a (fun j => decide (j ∈ cs.take 0)) 0 :=
  ⟨_, #[], 0, _, ho, ⟨rfl, rfl, rfl⟩, rfl, (fun e he => by simp at he), (by simp), (fun k => by simp), (by decide), (by rfl), rfl, List.Pairwise.nil, by
    show _ ∨ (!w.params.followText "set-order") = true
    cases w.params.followText "set-order"
    · exact .inr rfl
    · exact .inl rfl⟩
end
end DSet
end
section
set_option Elab.async false
set_option linter.all false
set_option maxRecDepth 100000
set_option maxHeartbeats 4000000
namespace DSet
open PySem PySem.Spec PyProof.Rows L2
section
variable {P : Program} {w : World} {A : Around} {E : Value → Shared → Prop} {s : Shared}
/-- set.update over what is walked leaves J -/
structure LoopOk (P : Program) (w : World) (A : Around) (s : Shared) (items : Array Value) (S : Addr) (J : Heap → Prop) : Prop where
  go : ∀ {I : Addr} {fp wr : List Addr} {G : Array GenState → Array GenState → Prop} {n : Nat} {Pv : Nat → Value → Prop} {St : Nat → Shared → Prop} {R : Result → Shared → Prop} (W : WalksS P w A.in1 I fp wr G n Pv St), S ∉ fp → n = items.size → (∀ i v, Pv i v → items[i]? = some v) →
    (∀ b ∈ wr, s.heap.get? b = none) → ∀ s1 : Shared, St 0 s1 → s1.heap.get? S = some (freshSet w) → (∀ b o, s.heap.get? b = some o → s1.heap.get? b = some o) → (∀ s2, Moved (S :: wr) G s1 s2 → J s2.heap → R (.ok (.ret .none)) s2) →
    codeAny (model P w) A (.builtin "set.update.loop" ⟨[.ref S, .ref I], []⟩) R s1
end
end DSet
end
section
set_option Elab.async false
set_option linter.all false
set_option maxRecDepth 100000
namespace DL
open PySem L2 PyProof.Rows
/-- what stands stays -/
def Keep0 (M M' : Store) : Prop := ∀ q m, M q = some m → M' q = some m
theorem Keep0.refl {M : Store} : Keep0 M M := fun _ _ h => h
theorem Keep0.trans {M M1 M2 : Store} (a : Keep0 M M1) (b : Keep0 M1 M2) : Keep0 M M2 := fun q m h => b q m (a q m h)
theorem Keep0.new {q : Addr} {M M' : Store} {m : MO} (a : Keep0 M M') (h : M q = none) : Keep0 M (mup M' q m) := fun r m' e => by
  have z : r ≠ q := fun z => by rw [z, h] at e; cases e
  rw [mup_ne z]; exact a r m' e
theorem Keep0.none {q : Addr} {M M' : Store} (a : Keep0 M M') (h : M' q = none) : M q = none := by
  cases e : M q with
  | none => rfl
  | some m => rw [a q m e] at h; cases h
theorem Keep.none {u q : Addr} {M M' : Store} (a : Keep u M M') (hn : q ≠ u) (h : M' q = none) : M q = none := by
  cases e : M q with
  | none => rfl
  | some m => rw [a q m hn e] at h; cases h
theorem Keep.of0 {u : Addr} {M M' : Store} (a : Keep0 M M') : Keep u M M' := fun q m _ e => a q m e
theorem Urn.some {M : Store} {u : Addr} {n : Nat} (h : Urn M u n) : M u ≠ none := by
  obtain ⟨a, b, c, h1, h2⟩ := h
  rw [h1]; simp
/-- a draw: any number below low -/
def spTake : SpD := fun ds M k => ∃ u low n, ds = [.cell u, .int low] ∧ 0 < low ∧ low.natAbs.log2 < 9000 ∧ Urn M u (n + 1) ∧ ∀ d M', 0 ≤ d → d < low → Keep u M M' → Urn M' u n → k (.int d) M'
/-! ### x or y of lists -/
section
variable {X : Cx} {a b : Expr} {rest : List Expr} {Δ : DS} {M : Store} {k : DK} {pos : Pos}
end
end DL
end
section
set_option Elab.async false
set_option linter.all false
set_option maxRecDepth 100000
namespace DL
open PySem L2 PyProof.Rows
/-! ### rows by places -/
theorem atI_nat {α : Type} {xs : List α} {j : Nat} {x : α} (h : xs[j]? = some x) : atI xs (j : Nat) = some x := by
  have hj := (List.getElem?_eq_some_iff.mp h).1
  unfold atI ixN
  rw [if_pos (by omega), if_pos (by omega), Int.toNat_natCast]
  exact h
theorem zip_map {α : Type} (f g : α → D) (xs : List α) : zipD (xs.map f) (xs.map g) = xs.map fun x => .tup [f x, g x] := by
  unfold zipD
  induction xs with
  | nil => rfl
  | cons x xs ih => rw [List.map_cons, List.map_cons, List.zip_cons_cons, List.map_cons, ih]; rfl
theorem zip_self (xs : List D) : zipD xs xs = xs.map fun x => .tup [x, x] := by
  have := zip_map (fun x => x) (fun x => x) xs
  rw [List.map_id'] at this
  exact this
/-- plain data: n deep -/
def Pl : Nat → D → Prop
  | _, .non => True
  | _, .bl _ => True
  | _, .int _ => True
  | _, .str _ => True
  | n + 1, .tup ds => ds.length ≤ sizeLine ∧ ∀ d ∈ ds, Pl n d
  | n + 1, .lst ds => ds.length ≤ sizeLine ∧ ∀ d ∈ ds, Pl n d
  | _, _ => False
end DL
end
section
set_option Elab.async false
set_option linter.all false
set_option maxRecDepth 100000
namespace DL
open PySem L2 PyProof.Rows
theorem lg {z : Int} (h0 : 0 < z) (h : z < 2 ^ 200) : z.natAbs.log2 < 9000 := by
  have h1 : z.natAbs < 2 ^ 200 := by omega
  have h2 : z.natAbs ≠ 0 := by omega
  have h3 : z.natAbs.log2 < 200 := (Nat.log2_lt h2).mpr h1
  omega
end DL
end
section
set_option Elab.async false
set_option linter.all false
set_option maxRecDepth 100000
/-! DL: dicts: comprehensions, keys -/
namespace DL
open PySem L2
theorem semSs_lock {X : Cx} {sts : List Stmt} {Q : Ends} {σ : L2.St} {H : Hp} {d : Addr} {u : HO} (h : H d = some u) (mu : Mut (some u)) (hh : ∀ od, SemSs X sts Q σ (upd H d (.frz od u))) : SemSs X sts Q σ H := fun pins s I => by
  obtain ⟨od, I1⟩ := I.lock h mu
  exact hh od pins s I1
theorem sem_lockP {X : Cx} {e : Expr} {σ : L2.St} {H : Hp} {Q : VK} (h : Sem X e σ H fun v H' => Q v H' ∨ ∃ d u, H' d = some u ∧ Mut (some u) ∧ ∀ od, Q v (upd H' d (.frz od u))) : Sem X e σ H Q := fun pins s I =>
  thn (h pins s I) fun v s1 ⟨x, H1, I1, r, q⟩ => by
    rcases q with q | ⟨d, u, hd, mu, q⟩
    · exact ⟨x, H1, I1, r, q⟩
    · obtain ⟨od, I2⟩ := I1.lock hd mu
      exact ⟨x, _, I2, r, q od⟩
def dputD (ks : List Key) (ds : List D) (k : Key) (r : D) : List Key × List D :=
  if (ks.any fun c => decide (c = k)) = true then (ks, (ks.zip ds).map fun p => if p.1 = k then r else p.2) else (ks ++ [k], ds ++ [r])
section
variable {K : PySem.W.Frag} {F : Hp}
theorem zip_any {α : Type} (k : Key) : ∀ {ks : List Key} {vs : List α}, ks.length = vs.length → ((ks.zip vs).any fun kv => decide (kv.1 = k)) = ks.any fun c => decide (c = k)
  | [], [], _ => rfl
  | _ :: ks, _ :: vs, l => by
    have ih := zip_any k (ks := ks) (vs := vs) (by simpa using l)
    rw [List.zip_cons_cons, List.any_cons, List.any_cons, ih]
  | [], _ :: _, l => by simp at l
  | _ :: _, [], l => by simp at l
theorem zip_put (k : Key) (v : V) : ∀ {ks : List Key} {vs : List V}, ks.length = vs.length → (ks.zip vs).map (fun kv => if kv.1 = k then (kv.1, v) else kv) = ks.zip ((ks.zip vs).map fun p => if p.1 = k then v else p.2)
  | [], [], _ => rfl
  | c :: ks, u :: vs, l => by
    have ih := zip_put k v (ks := ks) (vs := vs) (by simpa using l)
    rw [List.zip_cons_cons, List.map_cons, List.map_cons, List.zip_cons_cons, ih]
    congr 1
    by_cases h : c = k
    · simp [h]
    · simp [h]
  | [], _ :: _, l => by simp at l
  | _ :: _, [], l => by simp at l
theorem isL_put (k : Key) {r : D} {v : V} (i : Is K F r v) : ∀ {ks : List Key} {ds : List D} {vs : List V}, ks.length = ds.length → IsL K F ds vs → IsL K F ((ks.zip ds).map fun p => if p.1 = k then r else p.2) ((ks.zip vs).map fun p => if p.1 = k then v else p.2)
  | [], [], _, _, il => by rw [isL_nil.1 il]; exact IsL.nil
  | c :: ks, d :: ds, _, l, il => by
    obtain ⟨u, us, rfl, h1, h2⟩ := isL_cons.1 il
    have ih := isL_put k i (ks := ks) (ds := ds) (vs := us) (by simpa using l) h2
    rw [List.zip_cons_cons, List.map_cons, List.zip_cons_cons, List.map_cons]
    refine IsL.cons ?_ ih
    by_cases h : c = k
    · simp only [h, if_true]; exact i
    · simp only [h, if_false]; exact h1
  | [], _ :: _, _, l, _ => by simp at l
  | _ :: _, [], _, l, _ => by simp at l
theorem put_is {ks : List Key} {ds : List D} {vs : List V} {k : Key} {r : D} {v : V} (l : ks.length = ds.length) (il : IsL K F ds vs) (i : Is K F r v) :
    ∃ vs', putK (ks.zip vs) k v = (dputD ks ds k r).1.zip vs' ∧ (dputD ks ds k r).1.length = (dputD ks ds k r).2.length ∧ IsL K F (dputD ks ds k r).2 vs' := by
  have lv : ks.length = vs.length := by rw [l, il.length]
  unfold putK dputD
  rw [zip_any k lv]
  split
  · refine ⟨_, zip_put k v lv, ?_, isL_put k i l il⟩
    show ks.length = _
    rw [List.length_map, List.length_zip]; omega
  · refine ⟨vs ++ [v], ?_, by simp [l], il.app (IsL.cons i IsL.nil)⟩
    rw [List.zip_append lv]; rfl
end
section
variable {X : Cx} {Δ : DS} {M : Store} {tg e : Expr} {k : DK} {pos : Pos}
end
end DL
end
section
set_option Elab.async false
set_option linter.all false
set_option maxRecDepth 100000
/-! DP: programs of our own over data; draws are free -/
namespace DL
open PySem L2
inductive Pg (α : Type) where
  | ret (a : α) | fail | exn (d : D) | draw (low : Int) (f : Int → Pg α)
def Pg.bind {α β : Type} : Pg α → (α → Pg β) → Pg β
  | .ret a, f => f a
  | .fail, _ => .fail
  | .exn d, _ => .exn d
  | .draw low g, f => .draw low fun d => (g d).bind f
def ofO {α : Type} : Option α → Pg α
  | some a => .ret a
  | none => .fail
/-- with n draws to go: it ends, and k of the end -/
def wpB {α : Type} (b : Bool) : Nat → Pg α → (α → Nat → Prop) → Prop
  | n, .ret a, k => k a n
  | _, .fail, _ => False
  | _, .exn _, _ => False
  | n, .draw low f, k => b = true ∧ 0 < low ∧ low < 2 ^ 200 ∧ ∃ m, n = m + 1 ∧ ∀ d, 0 ≤ d → d < low → wpB b m (f d) k
section
variable {α β : Type} {b : Bool}
theorem wpB.mono : ∀ {p : Pg α} {n : Nat} {k k' : α → Nat → Prop}, wpB b n p k → (∀ a m, k a m → k' a m) → wpB b n p k'
  | .ret a, n, k, k', h, hk => hk a n h
  | .fail, _, _, _, h, _ => h.elim
  | .exn _, _, _, _, h, _ => h.elim
  | .draw low f, n, k, k', h, hk => by
    obtain ⟨h1, h2, h3, m, e, h4⟩ := h
    exact ⟨h1, h2, h3, m, e, fun d d0 d1 => wpB.mono (h4 d d0 d1) hk⟩
theorem wpB_bind : ∀ {p : Pg α} {f : α → Pg β} {n : Nat} {k : β → Nat → Prop}, wpB b n (p.bind f) k ↔ wpB b n p fun a m => wpB b m (f a) k
  | .ret a, f, n, k => Iff.rfl
  | .fail, f, n, k => Iff.rfl
  | .exn _, f, n, k => Iff.rfl
  | .draw low g, f, n, k => by
    constructor
    · rintro ⟨h1, h2, h3, m, e, h4⟩
      exact ⟨h1, h2, h3, m, e, fun d d0 d1 => wpB_bind.1 (h4 d d0 d1)⟩
    · rintro ⟨h1, h2, h3, m, e, h4⟩
      exact ⟨h1, h2, h3, m, e, fun d d0 d1 => wpB_bind.2 (h4 d d0 d1)⟩
theorem wpB_ofO {o : Option α} {n : Nat} {k : α → Nat → Prop} (h : wpB b n (ofO o) k) : ∃ a, o = some a ∧ k a n := by
  cases o with
  | none => exact h.elim
  | some a => exact ⟨a, rfl, h⟩
end
/-! ### names of classes and of the urn -/
section
variable {ρ : Nat → Addr}
theorem rnL_app (ds es : List D) : rnL ρ (ds ++ es) = rnL ρ ds ++ rnL ρ es := by rw [rnL_map, rnL_map, rnL_map, List.map_append]
theorem rnL_get (ds : List D) (i : Nat) : (rnL ρ ds)[i]? = ds[i]?.map (rn ρ) := by rw [rnL_map, List.getElem?_map]
theorem rn_tup (ds : List D) : rn ρ (.tup ds) = .tup (rnL ρ ds) := by simp only [rn]
theorem rn_lst (ds : List D) : rn ρ (.lst ds) = .lst (rnL ρ ds) := by simp only [rn]
theorem rn_frl (ds : List D) : rn ρ (.frl ds) = .frl (rnL ρ ds) := by simp only [rn]
theorem rn_dct (ks : List Key) (ds : List D) : rn ρ (.dct ks ds) = .dct ks (rnL ρ ds) := by simp only [rn]
theorem rn_ins (C : Addr) (fs : List Str) (ds : List D) : rn ρ (.ins C fs ds) = .ins (ρ C) fs (rnL ρ ds) := by simp only [rn]
theorem rn_cell (a : Addr) : rn ρ (.cell a) = .cell (ρ a) := by simp only [rn]
theorem rn_exc (C : Addr) (fs : List Str) (ds : List D) : rn ρ (.exc C fs ds) = .exc (ρ C) fs (rnL ρ ds) := by simp only [rn]
theorem rn_int (i : Int) : rn ρ (.int i) = .int i := by simp only [rn]
theorem rn_bl (i : Bool) : rn ρ (.bl i) = .bl i := by simp only [rn]
theorem rn_str (i : Str) : rn ρ (.str i) = .str i := by simp only [rn]
theorem rn_non : rn ρ .non = .non := by simp only [rn]
theorem rn_ty (n : String) : rn ρ (.ty n) = .ty n := by simp only [rn]
end
/-- 0: the urn; then the classes -/
def rho (γ : Nat → Addr) (u : Addr × Addr) : Nat → Addr
  | 0 => u.1
  | i + 1 => γ i
/-! ### slots -/
def UrnB (b : Bool) (M : Store) (u : Addr) (n : Nat) : Prop := b = true → Urn M u n
def KeepB (b : Bool) (u : Addr) (M M' : Store) : Prop := ∀ q m, (b = true → q ≠ u) → M q = some m → M' q = some m
theorem KeepB.refl {b : Bool} {u : Addr} {M : Store} : KeepB b u M M := fun _ _ _ h => h
theorem KeepB.trans {b : Bool} {u : Addr} {M M1 M2 : Store} (a : KeepB b u M M1) (c : KeepB b u M1 M2) : KeepB b u M M2 := fun q m n h => c q m n (a q m n h)
structure Aft (b : Bool) (u : Addr × Addr) (M M' : Store) (n : Nat) : Prop where
  keep : KeepB b u.1 M M'
  urn : UrnB b M' u.1 n
theorem Vw.keep {ρ : Nat → Addr} {b : Bool} {M M' : Store} {d dr : D} (h : Vw ρ b M d dr) (k : KeepB b (ρ 0) M M') : Vw ρ b M' d dr := by
  rcases h with h | ⟨q, ds, h1, h2, h3, h4⟩
  · exact .inl h
  · exact .inr ⟨q, ds, h1, h2, k q _ h4 h3, h4⟩
structure SI (γ : Nat → Addr) (b : Bool) (u : Addr × Addr) (M0 : Store) (Δ : List Sl) (Δr : DS) (M : Store) (n : Nat) : Prop where
  rel : Rel (rho γ u) u.2 b M0 Δ Δr M
  urn : UrnB b M u.1 n
  k0 : KeepB b u.1 M0 M
section
variable {γ : Nat → Addr} {b : Bool} {u : Addr × Addr} {M0 M M' M2 : Store} {Δ : List Sl} {Δr : DS} {n n' : Nat}
theorem Aft.refl (h : UrnB b M u.1 n) : Aft b u M M n := ⟨KeepB.refl, h⟩
theorem Aft.trans {n1 n2 : Nat} (a : Aft b u M M' n1) (c : Aft b u M' M2 n2) : Aft b u M M2 n2 := ⟨a.keep.trans c.keep, c.urn⟩
theorem Rel.keep {ρ : Nat → Addr} (r : Rel ρ an b M0 Δ Δr M) (k : KeepB b (ρ 0) M M') : Rel ρ an b M0 Δ Δr M' := ⟨r.len, r.v, fun i m h => by
  obtain ⟨q, h1, h2, h3, h4, h5⟩ := r.o i m h
  exact ⟨q, h1, k q _ h4 h2, h3, h4, h5⟩, r.inj, r.w⟩
theorem SI.aft (s : SI γ b u M0 Δ Δr M n) (a : Aft b u M M' n') : SI γ b u M0 Δ Δr M' n' := ⟨s.rel.keep a.keep, a.urn, s.k0.trans a.keep⟩
theorem SI.here (s : SI γ b u M0 Δ Δr M n) : Aft b u M M n := Aft.refl s.urn
end
/-! ### judgements -/
abbrev SE := List Sl → Pg D
abbrev SB := List Sl → Pg Bool
abbrev SA := List Sl → Pg (List D)
structure IE (γ : Nat → Addr) (X : Cx) (e : Expr) (s : SE) : Prop where
  go : ∀ b u M0 Δ Δr M n (k : DK), SI γ b u M0 Δ Δr M n → wpB b n (s Δ) (fun d n' => ∀ M', Aft b u M M' n' → k (rn (rho γ u) d) M') → EvD X e Δr M k
structure IV (γ : Nat → Addr) (X : Cx) (e : Expr) (s : SE) : Prop where
  go : ∀ b u M0 Δ Δr M n (k : DK), SI γ b u M0 Δ Δr M n → wpB b n (s Δ) (fun d n' => ∀ M' dr, Aft b u M M' n' → Vw (rho γ u) b M' d dr → k dr M') → EvD X e Δr M k
structure IT (γ : Nat → Addr) (X : Cx) (e : Expr) (s : SB) : Prop where
  go : ∀ b u M0 Δ Δr M n (k : BK), SI γ b u M0 Δ Δr M n → wpB b n (s Δ) (fun d n' => ∀ M', Aft b u M M' n' → k d M') → TeD X e Δr M k
structure IA (γ : Nat → Addr) (X : Cx) (es : List Expr) (s : SA) : Prop where
  go : ∀ b u M0 Δ Δr M n (k : AK), SI γ b u M0 Δ Δr M n → wpB b n (s Δ) (fun d n' => ∀ M', Aft b u M M' n' → k (rnL (rho γ u) d) M') → EvA X es Δr M k
/-- a fresh list -/
structure IL (γ : Nat → Addr) (X : Cx) (e : Expr) (s : SA) : Prop where
  go : ∀ b u M0 Δ Δr M n (k : AK), SI γ b u M0 Δ Δr M n → wpB b n (s Δ) (fun d n' => ∀ M', Aft b u M M' n' → k (rnL (rho γ u) d) M') → EvL X e Δr M k
structure II (γ : Nat → Addr) (X : Cx) (tg e : Expr) (s : SA) : Prop where
  go : ∀ b u M0 Δ Δr M n (k : AK), SI γ b u M0 Δ Δr M n → wpB b n (s Δ) (fun d n' => ∀ M', Aft b u M M' n' → k (rnL (rho γ u) d) M') → ItD X tg e Δr M k
section
variable {γ : Nat → Addr} {X : Cx} {a e e2 : Expr} {es : List Expr} {pos p : Pos} {x : Str}
theorem IE.iv {s : SE} (h : IE γ X e s) : IV γ X e s := .mk fun b u M0 Δ Δr M n k S w => h.go b u M0 Δ Δr M n k S (w.mono fun d m q M' A => q M' _ A (.inl rfl))
/-! ### leaves -/
def cVar (i : Nat) : SE := fun Δ => match Δ[i]? with
  | some (.v d) => .ret d
  | _ => .fail
def cVw (i : Nat) : SE := fun Δ => match Δ[i]? with
  | some (.v d) => .ret d
  | some (.o (.lst ds)) => .ret (.lst ds)
  | some (.w d) => .ret d
  | _ => .fail
def cC (d : D) : SE := fun _ => .ret d
theorem i_var {i : Nat} (hN : X.N[i]? = some x) (hv : Vis X.env.scope x) (hd : (x == ("__debug__" : Str)) = false) (hcd : (x == ("__classdict__" : Str)) = false) : IE γ X (.Name x pos) (cVar i) := .mk fun b u M0 Δ Δr M n k S w => by
  unfold cVar at w
  split at w
  · rename_i d hd'
    exact ev_var hN hv hd hcd (S.rel.v i d hd') (w M S.here)
  · exact w.elim
theorem iv_var {i : Nat} (hN : X.N[i]? = some x) (hv : Vis X.env.scope x) (hd : (x == ("__debug__" : Str)) = false) (hcd : (x == ("__classdict__" : Str)) = false) : IV γ X (.Name x pos) (cVw i) := .mk fun b u M0 Δ Δr M n k S w => by
  unfold cVw at w
  split at w
  · rename_i d hd'
    exact ev_var hN hv hd hcd (S.rel.v i d hd') (w M _ S.here (.inl rfl))
  · rename_i ds hd'
    obtain ⟨q, h1, h2, h3, h4, _⟩ := S.rel.o i _ hd'
    exact ev_var hN hv hd hcd h1 (w M _ S.here (.inr ⟨q, ds, rfl, rfl, h2, h4⟩))
  · rename_i d hd'
    obtain ⟨dr, h1, h2⟩ := S.rel.w i d hd'
    exact ev_var hN hv hd hcd h1 (w M _ S.here (h2.keep S.k0))
  · exact w.elim
theorem i_int {i : Int} {j : Nat} : IE γ X (.Constant (.int i) j pos) (cC (.int i)) := .mk fun b u M0 Δ Δr M n k S w => by
  have w := w M S.here
  rw [rn_int] at w
  exact ev_int w
theorem i_bl {i : Bool} {j : Nat} : IE γ X (.Constant (.bool i) j pos) (cC (.bl i)) := .mk fun b u M0 Δ Δr M n k S w => by
  have w := w M S.here
  rw [rn_bl] at w
  exact ev_bl w
theorem i_str {i : Str} {j : Nat} : IE γ X (.Constant (.str i) j pos) (cC (.str i)) := .mk fun b u M0 Δ Δr M n k S w => by
  have w := w M S.here
  rw [rn_str] at w
  exact ev_str w
theorem i_non {j : Nat} : IE γ X (.Constant .none j pos) (cC .non) := .mk fun b u M0 Δ Δr M n k S w => by
  have w := w M S.here
  rw [rn_non] at w
  exact ev_non w
theorem i_gS {z : Str} (hm : ∃ t, X.mg x = some (.str z t)) (hg : Gl X x) (hd : (x == ("__debug__" : Str)) = false := by decide) : IE γ X (.Name x pos) (cC (.str z)) := .mk fun b u M0 Δ Δr M n k S w => by
  have w := w M S.here
  rw [rn_str] at w
  exact ev_gS hm hg w hd
theorem i_gI {z : Int} (hm : ∃ t, X.mg x = some (.int z t)) (hg : Gl X x) (hd : (x == ("__debug__" : Str)) = false := by decide) : IE γ X (.Name x pos) (cC (.int z)) := .mk fun b u M0 Δ Δr M n k S w => by
  have w := w M S.here
  rw [rn_int] at w
  exact ev_gI hm hg w hd
theorem i_ty {T : String} (hg : Gl X x) (hm : X.mg x = none) (hv : bootBuiltins x = some (.type T)) (hn : x ≠ "__name__") (hdb : (x == ("__debug__" : Str)) = false) : IE γ X (.Name x pos) (cC (.ty T)) := .mk fun b u M0 Δ Δr M n k S w => by
  have w := w M S.here
  rw [rn_ty] at w
  exact ev_tyn hg hm hv hn hdb w
/-! ### one, two operands -/
def c1 (g : D → Option D) (a : SE) : SE := fun Δ => (a Δ).bind fun x => ofO (g x)
def c2 (g : D → D → Option D) (a c : SE) : SE := fun Δ => (a Δ).bind fun x => (c Δ).bind fun y => ofO (g x y)
/-- g is what PP asks -/
def Ok2 (PP : D → D → Store → DK → Prop) (g : D → D → Option D) : Prop := ∀ (ρ : Nat → Addr) x y d M (k : DK), g x y = some d → k (rn ρ d) M → PP (rn ρ x) (rn ρ y) M k
def Ok1 (PP : D → Store → DK → Prop) (g : D → Option D) : Prop := ∀ (ρ : Nat → Addr) x d M (k : DK), g x = some d → k (rn ρ d) M → PP (rn ρ x) M k
/-- the first operand may be a view -/
def OkV1 (PP : D → Store → DK → Prop) (g : D → Option D) : Prop := ∀ (ρ : Nat → Addr) b x xr d M (k : DK), g x = some d → Vw ρ b M x xr → k (rn ρ d) M → PP xr M k
def OkV2 (PP : D → D → Store → DK → Prop) (g : D → D → Option D) : Prop := ∀ (ρ : Nat → Addr) b x xr y d M (k : DK), g x y = some d → Vw ρ b M x xr → k (rn ρ d) M → PP xr (rn ρ y) M k
def OkW2 (PP : D → D → Store → DK → Prop) (g : D → D → Option D) : Prop := ∀ (ρ : Nat → Addr) b x y yr d M (k : DK), g x y = some d → Vw ρ b M y yr → k (rn ρ d) M → PP (rn ρ x) yr M k
theorem OkV1.ok {PP : D → Store → DK → Prop} {g : D → Option D} (h : OkV1 PP g) : Ok1 PP g := fun ρ x d M k e q => h ρ false x _ d M k e (.inl rfl) q
variable {c : Expr}
theorem i_two {e : Expr} {PP : D → D → Store → DK → Prop} {g : D → D → Option D} {s t : SE} (hev : ∀ Δr M k, (EvD X a Δr M fun d1 M1 => EvD X c Δr M1 fun d2 M2 => PP d1 d2 M2 k) → EvD X e Δr M k) (ok : Ok2 PP g) (ha : IE γ X a s) (hc : IE γ X c t) : IE γ X e (c2 g s t) := .mk fun b u M0 Δ Δr M n k S w => by
  refine hev Δr M k (ha.go b u M0 Δ Δr M n _ S ((wpB_bind.1 w).mono fun x n1 w1 M1 A1 => hc.go b u M0 Δ Δr M1 n1 _ (S.aft A1) ((wpB_bind.1 w1).mono fun y n2 w2 M2 A2 => ?_)))
  obtain ⟨d, h1, h2⟩ := wpB_ofO w2
  exact ok _ x y d M2 k h1 (h2 M2 (A1.trans A2))
theorem i_twoV {e : Expr} {PP : D → D → Store → DK → Prop} {g : D → D → Option D} {s t : SE} (hev : ∀ Δr M k, (EvD X a Δr M fun d1 M1 => EvD X c Δr M1 fun d2 M2 => PP d1 d2 M2 k) → EvD X e Δr M k) (ok : OkV2 PP g) (ha : IV γ X a s) (hc : IE γ X c t) : IE γ X e (c2 g s t) := .mk fun b u M0 Δ Δr M n k S w => by
  refine hev Δr M k (ha.go b u M0 Δ Δr M n _ S ((wpB_bind.1 w).mono fun x n1 w1 M1 xr A1 V1 => hc.go b u M0 Δ Δr M1 n1 _ (S.aft A1) ((wpB_bind.1 w1).mono fun y n2 w2 M2 A2 => ?_)))
  obtain ⟨d, h1, h2⟩ := wpB_ofO w2
  exact ok _ b x xr y d M2 k h1 (V1.keep A2.keep) (h2 M2 (A1.trans A2))
theorem i_one {e : Expr} {PP : D → Store → DK → Prop} {g : D → Option D} {s : SE} (hev : ∀ Δr M k, (EvD X a Δr M fun d1 M1 => PP d1 M1 k) → EvD X e Δr M k) (ok : Ok1 PP g) (ha : IE γ X a s) : IE γ X e (c1 g s) := .mk fun b u M0 Δ Δr M n k S w => by
  refine hev Δr M k (ha.go b u M0 Δ Δr M n _ S ((wpB_bind.1 w).mono fun x n1 w1 M1 A1 => ?_))
  obtain ⟨d, h1, h2⟩ := wpB_ofO w1
  exact ok _ x d M1 k h1 (h2 M1 A1)
theorem i_oneV {e : Expr} {PP : D → Store → DK → Prop} {g : D → Option D} {s : SE} (hev : ∀ Δr M k, (EvD X a Δr M fun d1 M1 => PP d1 M1 k) → EvD X e Δr M k) (ok : OkV1 PP g) (ha : IV γ X a s) : IE γ X e (c1 g s) := .mk fun b u M0 Δ Δr M n k S w => by
  refine hev Δr M k (ha.go b u M0 Δ Δr M n _ S ((wpB_bind.1 w).mono fun x n1 w1 M1 xr A1 V1 => ?_))
  obtain ⟨d, h1, h2⟩ := wpB_ofO w1
  exact ok _ b x xr d M1 k h1 V1 (h2 M1 A1)
end
end DL
end
section
set_option Elab.async false
set_option linter.all false
set_option maxRecDepth 100000
namespace DL
open PySem L2
/-! ### what the operators make -/
@[reducible] def lim : Nat := 16777216
theorem lim_eq : sizeLine = lim := PySem.sizeLine_eq
/-- a number that is not too great: said so that nothing is unrolled -/
def nsm (k : Nat) (j : Int) : Bool := Nat.ble j.natAbs k
theorem nsm_is {k : Nat} {j : Int} (h : nsm k j = true) : -(k : Int) ≤ j ∧ j ≤ k := by
  have h := Nat.le_of_ble_eq_true h
  omega
def addO : D → D → Option D
  | .int i, .int j => some (.int (i + j))
  | .str x, .str y => if x.length + y.length ≤ lim then some (.str (x ++ y)) else none
  | .lst x, .lst y => if x.length + y.length ≤ lim then some (.lst (x ++ y)) else none
  | .tup x, .tup y => if x.length + y.length ≤ lim then some (.tup (x ++ y)) else none
  | _, _ => none
theorem add_ok : Ok2 AddP addO := fun ρ x y d M k e h => by
  unfold addO at e
  split at e
  · cases e; rw [rn_int] at *; exact h
  · split at e
    · rename_i l; cases e; rw [rn_str] at *; exact ⟨by rw [lim_eq]; exact l, h⟩
    · cases e
  · split at e
    · rename_i l; cases e; rw [rn_lst, rnL_app] at *; exact ⟨by rw [lim_eq, rnL_len, rnL_len]; exact l, h⟩
    · cases e
  · split at e
    · rename_i l; cases e; rw [rn_tup, rnL_app] at *; exact ⟨by rw [lim_eq, rnL_len, rnL_len]; exact l, h⟩
    · cases e
  · cases e
def subO : D → D → Option D
  | .int i, .int j => some (.int (i - j))
  | _, _ => none
theorem sub_ok : Ok2 (NumP fun i j => .int (i - j)) subO := fun ρ x y d M k e h => by
  unfold subO at e
  split at e
  · cases e; rw [rn_int] at *; exact h
  · cases e
theorem rnL_rep {ρ : Nat → Addr} (xs : List D) : ∀ n : Nat, rnL ρ (List.replicate n xs).flatten = (List.replicate n (rnL ρ xs)).flatten
  | 0 => by simp [rnL_map]
  | n + 1 => by rw [List.replicate_succ, List.replicate_succ, List.flatten_cons, List.flatten_cons, rnL_app, rnL_rep xs n]
def mulO : D → D → Option D
  | .int i, .int j => if nsm 18446744073709551615 j = true ∨ i.natAbs.log2 + j.natAbs.log2 < 1000000 then some (.int (i * j)) else none
  | .lst x, .int j => if nsm 9223372036854775807 j = true ∧ x.length * j.toNat ≤ lim then some (.lst (List.replicate j.toNat x).flatten) else none
  | _, _ => none
theorem mul_ok : Ok2 MulP mulO := fun ρ x y d M k e h => by
  unfold mulO at e
  split at e
  · split at e
    · rename_i l; cases e; rw [rn_int] at *; exact ⟨l.elim (fun l => CMul.ok (.inr (by have := nsm_is l; constructor <;> omega))) CMulW.ok, h⟩
    · cases e
  · split at e
    · rename_i l; cases e
      rw [rn_lst, rnL_rep] at h
      rw [rn_lst, rn_int]
      have := nsm_is l.1
      exact ⟨⟨by omega, by omega, by rw [lim_eq, rnL_len]; exact l.2⟩, h⟩
    · cases e
  · cases e
def modO : D → D → Option D
  | .int i, .int j => if 0 < j then some (.int (i % j)) else none
  | _, _ => none
theorem mod_ok : Ok2 (IntP (fun _ j => 0 < j) fun i j => .int (i % j)) modO := fun ρ x y d M k e h => by
  unfold modO at e
  split at e
  · split at e
    · rename_i l; cases e; rw [rn_int] at *; exact ⟨l, h⟩
    · cases e
  · cases e
def negO : D → Option D
  | .int i => some (.int (-i))
  | _ => none
theorem neg_ok : Ok1 NegP negO := fun ρ x d M k e h => by
  unfold negO at e
  split at e
  · cases e; rw [rn_int] at *; exact h
  · cases e
/-! comparisons -/
def coO (op : CmpOp) : D → D → Option D
  | .int i, .int j => match op with
    | .Lt => some (.bl (decide (i < j))) | .LtE => some (.bl (decide (i ≤ j))) | .Gt => some (.bl (decide (j < i))) | .GtE => some (.bl (decide (j ≤ i)))
    | _ => none
  | .str i, .str j => match op with
    | .Lt => some (.bl (decide (i.cps.toList < j.cps.toList))) | .LtE => some (.bl (!decide (j.cps.toList < i.cps.toList))) | .Gt => some (.bl (decide (j.cps.toList < i.cps.toList))) | .GtE => some (.bl (!decide (i.cps.toList < j.cps.toList)))
    | _ => none
  | _, _ => none
theorem co_ok {op : CmpOp} : Ok2 (CoP op) (coO op) := fun ρ x y d M k e h => by
  unfold coO at e
  split at e
  · rw [rn_int, rn_int]
    split at e <;> first | (cases e; rw [rn_bl] at h; exact h) | cases e
  · rw [rn_str, rn_str]
    split at e <;> first | (cases e; rw [rn_bl] at h; exact h) | cases e
  · cases e
/-! == -/
mutual
theorem toPy_rn {ρ : Nat → Addr} : ∀ {d : D} {p : PyData}, toPy d = some p → toPy (rn ρ d) = some p
  | .non, p, h => by rw [rn_non]; exact h
  | .bl _, p, h => by rw [rn_bl]; exact h
  | .int _, p, h => by rw [rn_int]; exact h
  | .str _, p, h => by rw [rn_str]; exact h
  | .ty _, p, h => by rw [rn_ty]; exact h
  | .tup ds, p, h => by
    rw [rn_tup]
    unfold toPy at h ⊢
    obtain ⟨ps, h1, h2⟩ := Option.map_eq_some_iff.mp h
    rw [toPyL_rn h1]
    exact congrArg some h2
  | .lst ds, p, h => by
    rw [rn_lst]
    unfold toPy at h ⊢
    obtain ⟨ps, h1, h2⟩ := Option.map_eq_some_iff.mp h
    rw [toPyL_rn h1]
    exact congrArg some h2
  | .frl ds, p, h => by
    rw [rn_frl]
    unfold toPy at h ⊢
    obtain ⟨ps, h1, h2⟩ := Option.map_eq_some_iff.mp h
    rw [toPyL_rn h1]
    exact congrArg some h2
  | .dct _ _, p, h => by unfold toPy at h; cases h
  | .ins _ _ _, p, h => by unfold toPy at h; cases h
  | .cell _, p, h => by unfold toPy at h; cases h
  | .exc _ _ _, p, h => by unfold toPy at h; cases h
theorem toPyL_rn {ρ : Nat → Addr} : ∀ {ds : List D} {ps : List PyData}, toPyL ds = some ps → toPyL (rnL ρ ds) = some ps
  | [], _, h => by unfold rnL; exact h
  | d :: ds, _, h => by
    unfold rnL
    unfold toPyL at h ⊢
    obtain ⟨p, h1, h2⟩ := Option.bind_eq_some_iff.mp h
    obtain ⟨qs, h3, h4⟩ := Option.map_eq_some_iff.mp h2
    rw [toPy_rn h1, toPyL_rn h3]
    exact congrArg some h4
end
theorem sc_rn {ρ : Nat → Addr} {d : D} {v : V} (h : sc d = some v) : rn ρ d = d := by
  unfold sc at h
  split at h
  · exact rn_non
  · exact rn_bl _
  · exact rn_int _
  · exact rn_str _
  · cases h
def eqQ (neg : Bool) (x y : D) : Option D := match toPy x, toPy y with
  | some p, some q => if SeqAt.shaped p = true ∧ SeqAt.shaped q = true then some (.bl (if neg then !PyData.eqv p q else PyData.eqv p q)) else none
  | _, _ => none
def eqO (neg : Bool) (x y : D) : Option D := match x, y with
  | .int i, .int j => some (.bl (if neg then !decide (i = j) else decide (i = j)))
  | .str i, .str j => some (.bl (if neg then !decide (i = j) else decide (i = j)))
  | .bl i, .bl j => some (.bl (if neg then !decide (i = j) else decide (i = j)))
  | .non, .non => some (.bl (!neg))
  | .non, .int _ => some (.bl neg) | .int _, .non => some (.bl neg)
  | .non, .bl _ => some (.bl neg) | .bl _, .non => some (.bl neg)
  | .non, .str _ => some (.bl neg) | .str _, .non => some (.bl neg)
  | .int _, .str _ => some (.bl neg) | .str _, .int _ => some (.bl neg)
  | .bl _, .str _ => some (.bl neg) | .str _, .bl _ => some (.bl neg)
  | x, y => eqQ neg x y
theorem eqS_of {neg : Bool} {x y : V} {d1 d2 : D} {M : Store} {k : DK} (h1 : sc d1 = some x) (h2 : sc d2 = some y) (s : scal x y = true) {c : Bool} (hc : decide (x = y) = c) (h : k (.bl (if neg then !c else c)) M) : EqA neg d1 d2 M k := .inl ⟨x, y, h1, h2, s, by rw [hc]; exact h⟩
theorem eq_ok {neg : Bool} : Ok2 (EqA neg) (eqO neg) := fun ρ x y d M k e h => by
  unfold eqO at e
  split at e
  · cases e; rw [rn_int, rn_int]; rw [rn_bl] at h
    refine eqS_of rfl rfl rfl (c := decide _) (decide_eq_decide.mpr ⟨fun z => by cases z; rfl, fun z => by rw [z]⟩) h
  · cases e; rw [rn_str, rn_str]; rw [rn_bl] at h
    refine eqS_of rfl rfl rfl (c := decide _) (decide_eq_decide.mpr ⟨fun z => by cases z; rfl, fun z => by rw [z]⟩) h
  · cases e; rw [rn_bl, rn_bl]; rw [rn_bl] at h
    refine eqS_of rfl rfl rfl (c := decide _) (decide_eq_decide.mpr ⟨fun z => by cases z; rfl, fun z => by rw [z]⟩) h
  · cases e; rw [rn_non]; rw [rn_bl] at h
    refine eqS_of rfl rfl rfl (c := true) rfl (by cases neg <;> exact h)
  all_goals first
    | (cases e; simp only [rn_non, rn_int, rn_bl, rn_str] at h ⊢
       exact eqS_of rfl rfl rfl (c := false) (decide_eq_false fun z => by cases z) (by cases neg <;> exact h))
    | (unfold eqQ at e
       split at e
       · rename_i p q hp hq
         split at e
         · rename_i hs
           cases e
           rw [rn_bl] at h
           exact .inr ⟨p, q, toPy_rn hp, toPy_rn hq, hs.1, hs.2, h⟩
         · cases e
       · cases e)
/-! in -/
def seqV : D → Option (List D)
  | .tup ds => some ds | .lst ds => some ds | .frl ds => some ds
  | _ => none
theorem vw_seq {ρ : Nat → Addr} {b : Bool} {M : Store} {d dr : D} {ds : List D} (h : seqV d = some ds) (v : Vw ρ b M d dr) : seqD M dr = some (rnL ρ ds) := by
  rcases v with rfl | ⟨q, es, rfl, rfl, h2, _⟩
  · unfold seqV at h
    split at h
    · cases h; rw [rn_tup]; rfl
    · cases h; rw [rn_lst]; rfl
    · cases h; rw [rn_frl]; rfl
    · cases h
  · cases h; exact seq_cell h2
def inL (x : D) : List D → Option Bool
  | [] => some false
  | y :: r => (sc y).bind fun v => (inL x r).bind fun c => (sc x).map fun u => eqV v u || c
theorem inL_flat {ρ : Nat → Addr} {x : D} {v : V} (hx : sc x = some v) : ∀ {ds : List D} {c : Bool}, inL x ds = some c → ∃ vs, flatL (rnL ρ ds) = some vs ∧ inV v vs = c
  | [], c, h => by
    cases h
    unfold rnL
    exact ⟨[], rfl, rfl⟩
  | y :: r, c, h => by
    unfold inL at h
    obtain ⟨w, h1, h2⟩ := Option.bind_eq_some_iff.mp h
    obtain ⟨c2, h3, h4⟩ := Option.bind_eq_some_iff.mp h2
    rw [hx] at h4
    cases h4
    obtain ⟨vs, h5, h6⟩ := inL_flat hx h3
    refine ⟨w :: vs, ?_, ?_⟩
    · unfold rnL flatL
      rw [sc_rn h1, h1, h5]
      rfl
    · unfold inV at h6 ⊢
      rw [List.any_cons, h6]
def inO (neg : Bool) (x y : D) : Option D := match seqV y with
  | some ds => (inL x ds).bind fun c => (sc x).map fun _ => .bl (if neg then !c else c)
  | none => match x, y with
    | .str z, .str w => if z.cps.size = 1 then some (.bl (if neg then !decide (z.cps.toList.headD 0 ∈ w.cps.toList) else decide (z.cps.toList.headD 0 ∈ w.cps.toList))) else none
    | _, _ => none
theorem in_ok {neg : Bool} : OkW2 (InA neg) (inO neg) := fun ρ b x y yr d M k e v h => by
  unfold inO at e
  split at e
  · rename_i ds hs
    obtain ⟨c, h1, h2⟩ := Option.bind_eq_some_iff.mp e
    obtain ⟨w, h3, h4⟩ := Option.map_eq_some_iff.mp h2
    subst h4
    rw [rn_bl] at h
    obtain ⟨vs, h5, h6⟩ := inL_flat (ρ := ρ) h3 h1
    rw [sc_rn h3]
    exact .inl ⟨w, _, vs, h3, vw_seq hs v, h5, by rw [h6]; exact h⟩
  · split at e
    · rename_i z w hn
      split at e
      · rename_i hz
        cases e
        rw [rn_bl] at h
        rcases v with rfl | ⟨q, es, _, e2, _⟩
        · rw [rn_str, rn_str]
          have : ∃ c, z = ⟨#[c]⟩ := by
            obtain ⟨⟨l⟩⟩ := z
            match l, hz with
            | [c], _ => exact ⟨c, rfl⟩
          obtain ⟨c, rfl⟩ := this
          exact .inr ⟨c, w, rfl, rfl, h⟩
        · cases e2
      · cases e
    · cases e
def nonO (neg : Bool) (x : D) : Option D := some (.bl (if neg then !isNon x else isNon x))
theorem isNon_rn {ρ : Nat → Addr} (x : D) : isNon (rn ρ x) = isNon x := by
  cases x with
  | non => rw [rn_non]
  | bl _ => rw [rn_bl]
  | int _ => rw [rn_int]
  | str _ => rw [rn_str]
  | ty _ => rw [rn_ty]
  | tup _ => rw [rn_tup]; rfl
  | lst _ => rw [rn_lst]; rfl
  | frl _ => rw [rn_frl]; rfl
  | dct _ _ => rw [rn_dct]; rfl
  | ins _ _ _ => rw [rn_ins]; rfl
  | cell _ => rw [rn_cell]; rfl
  | exc _ _ _ => rw [rn_exc]; rfl
/-! items and slices -/
def ixO : D → D → Option D
  | .str z, .int i => if z.length ≤ lim then (atI z.cps.toList i).map fun c => .str ⟨#[c]⟩ else none
  | d, .int i => (seqV d).bind fun ds => atI ds i
  | _, _ => none
theorem atI_rn {ρ : Nat → Addr} {ds : List D} {i : Int} {r : D} (h : atI ds i = some r) : atI (rnL ρ ds) i = some (rn ρ r) := by
  unfold atI at h ⊢
  obtain ⟨j, h1, h2⟩ := Option.bind_eq_some_iff.mp h
  rw [rnL_len, h1]
  show (rnL ρ ds)[j]? = _
  rw [rnL_get, h2]
  rfl
theorem strOf_seq {d dr : D} {ρ : Nat → Addr} {b : Bool} {M : Store} {ds : List D} (h : seqV d = some ds) (v : Vw ρ b M d dr) : strOf dr = none := by
  rcases v with rfl | ⟨q, es, rfl, rfl, h2, _⟩
  · unfold seqV at h
    split at h
    · rw [rn_tup]; rfl
    · rw [rn_lst]; rfl
    · rw [rn_frl]; rfl
    · cases h
  · rfl
theorem ix_ok : OkV2 (fun d1 d2 M2 k => ∃ i r, d2 = .int i ∧ atD M2 d1 i = some r ∧ k r M2) ixO := fun ρ b x xr y d M k e v h => by
  unfold ixO at e
  split at e
  · split at e
    · rename_i l
      obtain ⟨c, h1, h2⟩ := Option.map_eq_some_iff.mp e
      subst h2
      rw [rn_str] at h
      rcases v with rfl | ⟨q, es, _, e2, _⟩
      · rw [rn_str, rn_int]
        refine ⟨_, _, rfl, ?_, h⟩
        unfold atD strOf
        dsimp only
        rw [if_pos (by rw [lim_eq]; exact l), h1]
        rfl
      · cases e2
    · cases e
  · rename_i i hn
    obtain ⟨ds, h1, h2⟩ := Option.bind_eq_some_iff.mp e
    rw [rn_int]
    refine ⟨i, _, rfl, ?_, h⟩
    unfold atD
    rw [strOf_seq h1 v]
    dsimp only
    rw [vw_seq h1 v]
    exact atI_rn h2
  · cases e
def slO (d : D) (lo hi : Option Int) : Option D := match d with
  | .str z => if z.length ≤ lim then some (.str (cutS z lo hi)) else none
  | .tup ds => some (.tup (cutD ds lo hi))
  | .lst ds => some (.lst (cutD ds lo hi))
  | .frl ds => some (.lst (cutD ds lo hi))
  | _ => none
theorem cut_rn {ρ : Nat → Addr} (ds : List D) (lo hi : Option Int) : rnL ρ (cutD ds lo hi) = cutD (rnL ρ ds) lo hi := by
  unfold cutD
  rw [rnL_map, rnL_map, List.map_take, List.map_drop, List.length_map]
theorem sl_ok {ρ : Nat → Addr} {b : Bool} {x xr d : D} {lo hi : Option Int} {M : Store} {k : DK} (e : slO x lo hi = some d) (v : Vw ρ b M x xr) (h : k (rn ρ d) M) : SlP xr lo hi M k := by
  rcases v with rfl | ⟨q, es, rfl, rfl, h2, _⟩
  · unfold slO at e
    split at e
    · split at e
      · rename_i l; cases e; rw [rn_str] at *; exact ⟨by rw [lim_eq]; exact l, h⟩
      · cases e
    · cases e; rw [rn_tup] at *; rw [cut_rn] at h; exact h
    · cases e; rw [rn_lst] at *; rw [cut_rn] at h; exact ⟨_, rfl, h⟩
    · cases e; rw [rn_lst, cut_rn] at h; rw [rn_frl]; exact ⟨_, rfl, h⟩
    · cases e
  · cases e
    rw [rn_lst, cut_rn] at h
    exact ⟨_, ls_cell h2, h⟩
def intOf : D → Option Int
  | .int i => some i
  | _ => none
theorem intOf_is {d : D} {i : Int} (h : intOf d = some i) : d = .int i := by
  unfold intOf at h
  split at h
  · cases h; rfl
  · cases h
def sl10 (x y : D) : Option D := (intOf y).bind fun i => slO x (some i) none
def sl01 (x y : D) : Option D := (intOf y).bind fun i => slO x none (some i)
/-! len and numbers -/
def lenO' : D → Option D
  | .str z => if z.length ≤ lim then some (.int z.length) else none
  | d => (seqV d).map fun ds => .int ds.length
theorem len_ok : OkV1 (fun d M1 k => ∃ n : Nat, lenD M1 d = some n ∧ k (.int n) M1) lenO' := fun ρ b x xr d M k e v h => by
  unfold lenO' at e
  split at e
  · split at e
    · rename_i l
      cases e
      rw [rn_int] at h
      rcases v with rfl | ⟨q, es, _, e2, _⟩
      · rw [rn_str]
        exact ⟨_, by unfold lenD strOf; dsimp only; rw [if_pos (by rw [lim_eq]; exact l)], h⟩
      · cases e2
    · cases e
  · obtain ⟨ds, h1, h2⟩ := Option.map_eq_some_iff.mp e
    subst h2
    rw [rn_int] at h
    refine ⟨ds.length, ?_, h⟩
    unfold lenD
    rw [strOf_seq h1 v]
    dsimp only
    rw [vw_seq h1 v]
    show some (rnL ρ ds).length = _
    rw [rnL_len]
def intO : D → Option D
  | .int i => some (.int i)
  | .bl c => some (.int (if c then 1 else 0))
  | _ => none
theorem int_ok : Ok1 IntC intO := fun ρ x d M k e h => by
  unfold intO at e
  split at e
  · cases e; rw [rn_int] at *; exact h
  · cases e; rw [rn_int] at h; rw [rn_bl]; exact h
  · cases e
/-! rows of ints, of truths, of texts -/
def unI : List D → Option (List Int)
  | [] => some []
  | .int i :: r => (unI r).map (i :: ·)
  | _ => none
def unB : List D → Option (List Bool)
  | [] => some []
  | .bl i :: r => (unB r).map (i :: ·)
  | _ => none
theorem unI_eq : ∀ {ds : List D} {ns : List Int}, unI ds = some ns → ds = ns.map D.int
  | [], _, h => by cases h; rfl
  | d :: r, ns, h => by
    cases d with
    | int i =>
      obtain ⟨ms, h1, h2⟩ := Option.map_eq_some_iff.mp (show (unI r).map (i :: ·) = some ns from h)
      subst h2
      rw [unI_eq h1]; rfl
    | _ => cases h
theorem unB_eq : ∀ {ds : List D} {ns : List Bool}, unB ds = some ns → ds = ns.map D.bl
  | [], _, h => by cases h; rfl
  | d :: r, ns, h => by
    cases d with
    | bl i =>
      obtain ⟨ms, h1, h2⟩ := Option.map_eq_some_iff.mp (show (unB r).map (i :: ·) = some ns from h)
      subst h2
      rw [unB_eq h1]; rfl
    | _ => cases h
theorem unS_eq {ds : List D} {ns : List Str} (h : unS ds = some ns) : ds = ns.map D.str := Option.some.inj (strL h)
theorem rn_ints {ρ : Nat → Addr} (ns : List Int) : rnL ρ (ns.map D.int) = ns.map D.int := by
  rw [rnL_map, List.map_map]; exact List.map_congr_left fun i _ => rn_int i
theorem rn_bls {ρ : Nat → Addr} (ns : List Bool) : rnL ρ (ns.map D.bl) = ns.map D.bl := by
  rw [rnL_map, List.map_map]; exact List.map_congr_left fun i _ => rn_bl i
theorem rn_strs {ρ : Nat → Addr} (ns : List Str) : rnL ρ (ns.map D.str) = ns.map D.str := by
  rw [rnL_map, List.map_map]; exact List.map_congr_left fun i _ => rn_str i
def lsV : D → Option (List D)
  | .lst ds => some ds | .frl ds => some ds
  | _ => none
theorem vw_ls {ρ : Nat → Addr} {b : Bool} {M : Store} {d dr : D} {ds : List D} (h : lsV d = some ds) (v : Vw ρ b M d dr) : lsD M dr = some (rnL ρ ds) := by
  rcases v with rfl | ⟨q, es, rfl, rfl, h2, _⟩
  · unfold lsV at h
    split at h
    · cases h; rw [rn_lst]; rfl
    · cases h; rw [rn_frl]; rfl
    · cases h
  · cases h; exact ls_cell h2
def allO (d : D) : Option D := (lsV d).bind fun ds => (unB ds).map fun ns => .bl (ns.all id)
theorem all_ok : OkV1 (fun d M1 k => ∃ ns : List Bool, lsD M1 d = some (ns.map D.bl) ∧ k (.bl (ns.all id)) M1) allO := fun ρ b x xr d M k e v h => by
  obtain ⟨ds, h1, h2⟩ := Option.bind_eq_some_iff.mp e
  obtain ⟨ns, h3, h4⟩ := Option.map_eq_some_iff.mp h2
  subst h4
  rw [rn_bl] at h
  exact ⟨ns, by rw [vw_ls h1 v, unB_eq h3, rn_bls], h⟩
end DL
end
section
set_option Elab.async false
set_option linter.all false
set_option maxRecDepth 100000
namespace DL
open PySem L2
/-! ### any judgement that hands on a value -/
structure IJ (γ : Nat → Addr) (J : DS → Store → DK → Prop) (s : SE) : Prop where
  go : ∀ b u M0 Δ Δr M n (k : DK), SI γ b u M0 Δ Δr M n → wpB b n (s Δ) (fun d n' => ∀ M', Aft b u M M' n' → k (rn (rho γ u) d) M') → J Δr M k
section
variable {γ : Nat → Addr} {X : Cx} {a c e e2 : Expr} {es rest : List Expr} {pos p : Pos} {x : Str} {op : CmpOp} {J : DS → Store → DK → Prop} {s t : SE}
theorem j_two {PP : D → D → Store → DK → Prop} {g : D → D → Option D} (hev : ∀ Δr M k, (EvD X a Δr M fun d1 M1 => EvD X c Δr M1 fun d2 M2 => PP d1 d2 M2 k) → J Δr M k) (ok : Ok2 PP g) (ha : IE γ X a s) (hc : IE γ X c t) : IJ γ J (c2 g s t) := .mk fun b u M0 Δ Δr M n k S w => by
  refine hev Δr M k (ha.go b u M0 Δ Δr M n _ S ((wpB_bind.1 w).mono fun x n1 w1 M1 A1 => hc.go b u M0 Δ Δr M1 n1 _ (S.aft A1) ((wpB_bind.1 w1).mono fun y n2 w2 M2 A2 => ?_)))
  obtain ⟨d, h1, h2⟩ := wpB_ofO w2
  exact ok _ x y d M2 k h1 (h2 M2 (A1.trans A2))
theorem j_twoW {PP : D → D → Store → DK → Prop} {g : D → D → Option D} (hev : ∀ Δr M k, (EvD X a Δr M fun d1 M1 => EvD X c Δr M1 fun d2 M2 => PP d1 d2 M2 k) → J Δr M k) (ok : OkW2 PP g) (ha : IE γ X a s) (hc : IV γ X c t) : IJ γ J (c2 g s t) := .mk fun b u M0 Δ Δr M n k S w => by
  refine hev Δr M k (ha.go b u M0 Δ Δr M n _ S ((wpB_bind.1 w).mono fun x n1 w1 M1 A1 => hc.go b u M0 Δ Δr M1 n1 _ (S.aft A1) ((wpB_bind.1 w1).mono fun y n2 w2 M2 yr A2 V2 => ?_)))
  obtain ⟨d, h1, h2⟩ := wpB_ofO w2
  exact ok _ b x y yr d M2 k h1 V2 (h2 M2 (A1.trans A2))
abbrev IC (γ : Nat → Addr) (X : Cx) (op : CmpOp) (a c : Expr) (s : SE) : Prop := IJ γ (EvC X op a c) s
/-! operators -/
theorem i_add (ha : IE γ X a s) (hc : IE γ X c t) : IE γ X (.BinOp a .Add c pos) (c2 addO s t) := i_two (fun _ _ _ h => ev_add h) add_ok ha hc
theorem i_sub (ha : IE γ X a s) (hc : IE γ X c t) : IE γ X (.BinOp a .Sub c pos) (c2 subO s t) := i_two (fun _ _ _ h => ev_sub h) sub_ok ha hc
theorem i_mul (ha : IE γ X a s) (hc : IE γ X c t) : IE γ X (.BinOp a .Mult c pos) (c2 mulO s t) := i_two (fun _ _ _ h => ev_mul h) mul_ok ha hc
theorem i_mod (ha : IE γ X a s) (hc : IE γ X c t) : IE γ X (.BinOp a .Mod c pos) (c2 modO s t) := i_two (fun _ _ _ h => ev_mod h) mod_ok ha hc
theorem i_neg (ha : IE γ X a s) : IE γ X (.UnaryOp .USub a pos) (c1 negO s) := i_one (fun _ _ _ h => ev_neg h) neg_ok ha
/-! comparisons -/
theorem k_eq (hu : X.A.units + 64 < cLine) (ha : IE γ X a s) (hc : IE γ X c t) : IC γ X .Eq a c (c2 (eqO false) s t) := j_two (fun _ _ _ h => c_eq hu h) eq_ok ha hc
theorem k_ne (hu : X.A.units + 64 < cLine) (ha : IE γ X a s) (hc : IE γ X c t) : IC γ X .NotEq a c (c2 (eqO true) s t) := j_two (fun _ _ _ h => c_ne hu h) eq_ok ha hc
theorem k_in (ha : IE γ X a s) (hc : IV γ X c t) : IC γ X .In a c (c2 (inO false) s t) := j_twoW (fun _ _ _ h => c_in h) in_ok ha hc
theorem k_is {j : Nat} (ha : IE γ X a s) : IC γ X .Is a (.Constant .none j p) (c1 (nonO false) s) := .mk fun b u M0 Δ Δr M n k S w => by
  refine c_isN (ha.go b u M0 Δ Δr M n _ S ((wpB_bind.1 w).mono fun x n1 w1 M1 A1 => ?_))
  have w2 := w1 M1 A1
  rw [rn_bl] at w2
  rw [isNon_rn]
  exact w2
theorem k_isnot {j : Nat} (ha : IE γ X a s) : IC γ X .IsNot a (.Constant .none j p) (c1 (nonO true) s) := .mk fun b u M0 Δ Δr M n k S w => by
  refine c_notN (ha.go b u M0 Δ Δr M n _ S ((wpB_bind.1 w).mono fun x n1 w1 M1 A1 => ?_))
  have w2 := w1 M1 A1
  rw [rn_bl] at w2
  rw [isNon_rn]
  exact w2
theorem i_cmp (hm : behindInMarks op c = false) (h : IC γ X op a c s) : IE γ X (.Compare a [op] [c] pos) s := .mk fun b u M0 Δ Δr M n k S w => ev_c1 hm (h.go b u M0 Δ Δr M n k S w)
def toB : D → Option Bool
  | .bl c => some c
  | _ => none
theorem toB_is {d : D} {c : Bool} (h : toB d = some c) : d = .bl c := by
  unfold toB at h
  split at h
  · cases h; rfl
  · cases h
def tB (s : SE) : SB := fun Δ => (s Δ).bind fun d => ofO (toB d)
theorem t_cmp (hm : behindInMarks op c = false) (h : IC γ X op a c s) : IT γ X (.Compare a [op] [c] pos) (tB s) := .mk fun b u M0 Δ Δr M n k S w => te_c1 hm (h.go b u M0 Δ Δr M n _ S ((wpB_bind.1 w).mono fun d n1 w1 M1 A1 => by
  obtain ⟨c, h1, h2⟩ := wpB_ofO w1
  rw [toB_is h1, rn_bl]
  exact ⟨c, rfl, h2 M1 A1⟩))
/-! a < b < c -/
def cCh (op op' : CmpOp) (a c d : SE) : SE := fun Δ => (a Δ).bind fun x => (c Δ).bind fun y => (ofO ((coO op x y).bind toB)).bind fun z => if z = true then (d Δ).bind fun w => ofO (coO op' y w) else .ret (.bl false)
theorem t_chain {g : Expr} {op' : CmpOp} {r : SE} (hm : lastMarks [op, op'] [c, g] = false) (ha : IE γ X a s) (hc : IE γ X c t) (hg : IE γ X g r) : IT γ X (.Compare a [op, op'] [c, g] pos) (tB (cCh op op' s t r)) := .mk fun b u M0 Δ Δr M n k S w => by
  have w := wpB_bind.1 (wpB_bind.1 w)
  refine te_chain hm (ha.go b u M0 Δ Δr M n _ S (w.mono fun x n1 w1 M1 A1 => hc.go b u M0 Δ Δr M1 n1 _ (S.aft A1) ((wpB_bind.1 w1).mono fun y n2 w2 M2 A2 => ?_)))
  have A12 := A1.trans A2
  obtain ⟨z, h1, h2⟩ := wpB_ofO (wpB_bind.1 w2)
  obtain ⟨d0, h3, h4⟩ := Option.bind_eq_some_iff.mp h1
  have e0 := toB_is h4
  subst e0
  refine co_ok _ x y _ M2 _ h3 ?_
  rw [rn_bl]
  refine ⟨z, rfl, ?_⟩
  cases z with
  | true =>
    rw [if_pos rfl] at h2 ⊢
    refine hg.go b u M0 Δ Δr M2 n2 _ (S.aft A12) ((wpB_bind.1 h2).mono fun v n3 w3 M3 A3 => ?_)
    obtain ⟨d, h5, h6⟩ := wpB_ofO w3
    obtain ⟨c', h7, h8⟩ := wpB_ofO h6
    have e1 := toB_is h7
    subst e1
    refine co_ok _ y v _ M3 _ h5 ?_
    rw [rn_bl]
    exact ⟨c', rfl, h8 M3 (A12.trans A3)⟩
  | false =>
    rw [if_neg Bool.false_ne_true] at h2 ⊢
    exact h2 M2 A12
/-! truth -/
def truO : D → Option Bool
  | .non => some false | .bl b => some b | .int i => some (i != 0)
  | .tup ds => some (!ds.isEmpty) | .lst ds => some (!ds.isEmpty) | .frl ds => some (!ds.isEmpty) | .str x => if x.length ≤ lim then some ((x.length : Int) != 0) else none
  | _ => none
theorem rnL_emp {ρ : Nat → Addr} (ds : List D) : (rnL ρ ds).isEmpty = ds.isEmpty := by rw [rnL_map]; exact List.isEmpty_map
theorem tru_vw {ρ : Nat → Addr} {b : Bool} {M : Store} {d dr : D} {z : Bool} (h : truO d = some z) (v : Vw ρ b M d dr) : truD M dr = some z := by
  rcases v with rfl | ⟨q, es, rfl, rfl, h2, _⟩
  · unfold truO at h
    split at h <;> first | cases h | skip
    · rw [rn_non]; rfl
    · rw [rn_bl]; rfl
    · rw [rn_int]; rfl
    · rw [rn_tup]; show some _ = _; rw [rnL_emp]
    · rw [rn_lst]; show some _ = _; rw [rnL_emp]
    · rw [rn_frl]; show some _ = _; rw [rnL_emp]
    · split at h
      · rename_i hl
        cases h
        rw [rn_str]
        show (if _ then _ else none) = _
        rw [if_pos (by rw [lim_eq] at *; exact hl)]
      · cases h
  · cases h
    rw [tru_cell h2, rnL_emp]
def tT (s : SE) : SB := fun Δ => (s Δ).bind fun d => ofO (truO d)
theorem t_truth (he : ∀ whole, isTrue a X.env whole = (do let v ← whole; standAt a.pos; holding [v] (truthy v))) (h : IV γ X a s) : IT γ X a (tT s) := .mk fun b u M0 Δ Δr M n k S w => te_truth he (h.go b u M0 Δ Δr M n _ S ((wpB_bind.1 w).mono fun d n1 w1 M1 dr A1 V1 => by
  obtain ⟨c, h1, h2⟩ := wpB_ofO w1
  exact ⟨c, tru_vw h1 V1, h2 M1 A1⟩))
def tNot (s : SB) : SB := fun Δ => (s Δ).bind fun d => .ret (!d)
theorem t_not {s : SB} (h : IT γ X a s) : IT γ X (.UnaryOp .Not a pos) (tNot s) := .mk fun b u M0 Δ Δr M n k S w => te_not (h.go b u M0 Δ Δr M n _ S ((wpB_bind.1 w).mono fun d n1 w1 M1 A1 => w1 M1 A1))
def cNot (s : SE) : SE := fun Δ => (s Δ).bind fun d => (ofO (toB d)).bind fun c => .ret (.bl (!c))
theorem i_not (h : IE γ X a s) : IE γ X (.UnaryOp .Not a pos) (cNot s) := .mk fun b u M0 Δ Δr M n k S w => ev_not (h.go b u M0 Δ Δr M n _ S ((wpB_bind.1 w).mono fun d n1 w1 M1 A1 => by
  obtain ⟨c, h1, h2⟩ := wpB_ofO (wpB_bind.1 w1)
  have h3 := h2 M1 A1
  rw [toB_is h1, rn_bl]
  rw [rn_bl] at h3
  exact ⟨c, rfl, h3⟩))
/-! and, or -/
structure IW (γ : Nat → Addr) (X : Cx) (e : Expr) (s : SB) : Prop where
  go : ∀ b u M0 Δ Δr M n (k : BK), SI γ b u M0 Δ Δr M n → wpB b n (s Δ) (fun d n' => ∀ M', Aft b u M M' n' → k d M') → WeD X e Δr M k
def tAnd (s t : SB) : SB := fun Δ => (s Δ).bind fun c => if c = true then t Δ else .ret false
def tOr (s t : SB) : SB := fun Δ => (s Δ).bind fun c => if c = true then .ret true else t Δ
theorem t_w {s : SB} (h : IW γ X e s) : IT γ X e s := .mk fun b u M0 Δ Δr M n k S w => te_w (h.go b u M0 Δ Δr M n k S w)
theorem w_and1 {s : SB} (h : IT γ X a s) : IW γ X (.BoolOp .And [a] pos) s := .mk fun b u M0 Δ Δr M n k S w => we_and1 (h.go b u M0 Δ Δr M n k S w)
theorem w_or1 {s : SB} (h : IT γ X a s) : IW γ X (.BoolOp .Or [a] pos) s := .mk fun b u M0 Δ Δr M n k S w => we_or1 (h.go b u M0 Δ Δr M n k S w)
theorem w_and {s t : SB} (h : IT γ X a s) (h2 : IW γ X (.BoolOp .And (c :: rest) pos) t) : IW γ X (.BoolOp .And (a :: c :: rest) pos) (tAnd s t) := .mk fun b u M0 Δ Δr M n k S w => we_and (h.go b u M0 Δ Δr M n _ S ((wpB_bind.1 w).mono fun d n1 w1 M1 A1 => by
  cases d with
  | true => exact h2.go b u M0 Δ Δr M1 n1 k (S.aft A1) (w1.mono fun d n2 q M2 A2 => q M2 (A1.trans A2))
  | false => exact w1 M1 A1))
theorem w_or {s t : SB} (h : IT γ X a s) (h2 : IW γ X (.BoolOp .Or (c :: rest) pos) t) : IW γ X (.BoolOp .Or (a :: c :: rest) pos) (tOr s t) := .mk fun b u M0 Δ Δr M n k S w => we_or (h.go b u M0 Δ Δr M n _ S ((wpB_bind.1 w).mono fun d n1 w1 M1 A1 => by
  cases d with
  | false => exact h2.go b u M0 Δ Δr M1 n1 k (S.aft A1) (w1.mono fun d n2 q M2 A2 => q M2 (A1.trans A2))
  | true => exact w1 M1 A1))
def eAnd (s t : SE) : SE := fun Δ => (s Δ).bind fun d => (ofO (toB d)).bind fun c => if c = true then t Δ else .ret (.bl false)
theorem i_b1 {bop} (h : IE γ X a s) : IE γ X (.BoolOp bop [a] pos) s := .mk fun b u M0 Δ Δr M n k S w => ev_one (h.go b u M0 Δ Δr M n k S w)
theorem i_and (h : IE γ X a s) (h2 : IE γ X (.BoolOp .And (c :: rest) pos) t) : IE γ X (.BoolOp .And (a :: c :: rest) pos) (eAnd s t) := .mk fun b u M0 Δ Δr M n k S w => ev_and (h.go b u M0 Δ Δr M n _ S ((wpB_bind.1 w).mono fun d n1 w1 M1 A1 => by
  obtain ⟨z, h1, w2⟩ := wpB_ofO (wpB_bind.1 w1)
  rw [toB_is h1, rn_bl]
  refine ⟨z, rfl, ?_⟩
  cases z with
  | true => exact h2.go b u M0 Δ Δr M1 n1 k (S.aft A1) (w2.mono fun d n2 q M2 A2 => q M2 (A1.trans A2))
  | false =>
    have w3 := w2 M1 A1
    rw [rn_bl] at w3
    exact w3))
def eOr (s t : SE) : SE := fun Δ => (s Δ).bind fun d => (ofO (truO d)).bind fun c => if c = true then .ret d else t Δ
def cIf (t : SB) (s r : SE) : SE := fun Δ => (t Δ).bind fun c => if c = true then s Δ else r Δ
theorem i_if {g : Expr} {tb : SB} (h : IT γ X g tb) (ha : IE γ X a s) (hc : IE γ X c t) : IE γ X (.IfExp g a c pos) (cIf tb s t) := .mk fun b u M0 Δ Δr M n k S w => ev_if (h.go b u M0 Δ Δr M n _ S ((wpB_bind.1 w).mono fun d n1 w1 M1 A1 => by
  cases d with
  | true => exact ha.go b u M0 Δ Δr M1 n1 k (S.aft A1) (w1.mono fun d n2 q M2 A2 => q M2 (A1.trans A2))
  | false => exact hc.go b u M0 Δ Δr M1 n1 k (S.aft A1) (w1.mono fun d n2 q M2 A2 => q M2 (A1.trans A2))))
/-! ### rows -/
def aN : SA := fun _ => .ret []
def aC (s : SE) (t : SA) : SA := fun Δ => (s Δ).bind fun d => (t Δ).bind fun ds => .ret (d :: ds)
theorem a_nil : IA γ X [] aN := .mk fun b u M0 Δ Δr M n k S w => by
  have w := w M S.here
  unfold rnL at w
  exact ea_nil w
theorem a_cons {t : SA} (h : IE γ X e s) (ht : IA γ X es t) (hs : starEach (e :: es) X.env = (false, eval e X.env) :: starEach es X.env := by rfl) : IA γ X (e :: es) (aC s t) := .mk fun b u M0 Δ Δr M n k S w => ea_cons (h.go b u M0 Δ Δr M n _ S ((wpB_bind.1 w).mono fun d n1 w1 M1 A1 => ht.go b u M0 Δ Δr M1 n1 _ (S.aft A1) ((wpB_bind.1 w1).mono fun ds n2 w2 M2 A2 => by
  have w3 := w2 M2 (A1.trans A2)
  unfold rnL at w3
  exact w3))) hs
def cTup (s : SA) : SE := fun Δ => (s Δ).bind fun ds => if ds.length ≤ lim then .ret (.tup ds) else .fail
theorem i_tup {s : SA} {x1} (h : IA γ X es s) : IE γ X (.Tuple es x1 pos) (cTup s) := .mk fun b u M0 Δ Δr M n k S w => ev_tup (h.go b u M0 Δ Δr M n _ S ((wpB_bind.1 w).mono fun ds n1 w1 M1 A1 => by
  split at w1
  · rename_i l
    have w2 := w1 M1 A1
    rw [rn_tup] at w2
    exact ⟨by rw [lim_eq, rnL_len]; exact l, w2⟩
  · exact w1.elim))
def aL (s : SA) : SA := fun Δ => (s Δ).bind fun ds => if ds.length ≤ lim then .ret ds else .fail
theorem l_lst {s : SA} (h : IA γ X es s) : IL γ X (.List es pos) (aL s) := .mk fun b u M0 Δ Δr M n k S w => el_lst (h.go b u M0 Δ Δr M n _ S ((wpB_bind.1 w).mono fun ds n1 w1 M1 A1 => by
  split at w1
  · rename_i l
    exact ⟨by rw [lim_eq, rnL_len]; exact l, w1 M1 A1⟩
  · exact w1.elim))
def cL (s : SA) : SE := fun Δ => (s Δ).bind fun ds => .ret (.lst ds)
theorem IL.frz {s : SA} (h : IL γ X e s) : IE γ X e (cL s) := .mk fun b u M0 Δ Δr M n k S w => EvL.frz (h.go b u M0 Δ Δr M n _ S ((wpB_bind.1 w).mono fun ds n1 w1 M1 A1 => by
  have w2 := w1 M1 A1
  rw [rn_lst] at w2
  exact w2))
/-! items and slices -/
theorem i_ix (hs : PlainIx c) (ha : IV γ X a s) (hc : IE γ X c t) : IE γ X (.Subscript a c pos) (c2 ixO s t) := i_twoV (fun _ _ _ h => ev_ix hs h) ix_ok ha hc
theorem i_sl10 {p2 : Pos} (ha : IV γ X a s) (hc : IE γ X c t) : IE γ X (.Subscript a (.Slice (some c) none none p2) pos) (c2 sl10 s t) := i_twoV (fun _ _ _ h => ev_sl10 h) (fun ρ b x xr y d M k e v h => by
  obtain ⟨i, h1, h2⟩ := Option.bind_eq_some_iff.mp e
  rw [intOf_is h1, rn_int]
  exact ⟨i, rfl, sl_ok h2 v h⟩) ha hc
theorem i_sl01 {p2 : Pos} (ha : IV γ X a s) (hc : IE γ X c t) : IE γ X (.Subscript a (.Slice none (some c) none p2) pos) (c2 sl01 s t) := i_twoV (fun _ _ _ h => ev_sl01 h) (fun ρ b x xr y d M k e v h => by
  obtain ⟨i, h1, h2⟩ := Option.bind_eq_some_iff.mp e
  rw [intOf_is h1, rn_int]
  exact ⟨i, rfl, sl_ok h2 v h⟩) ha hc
def cSl (a c d : SE) : SE := fun Δ => (a Δ).bind fun x => (c Δ).bind fun y => (ofO (intOf y)).bind fun i => (d Δ).bind fun z => (ofO (intOf z)).bind fun j => ofO (slO x (some i) (some j))
theorem i_sl11 {g : Expr} {r : SE} {p2 : Pos} (ha : IV γ X a s) (hc : IE γ X c t) (hg : IE γ X g r) : IE γ X (.Subscript a (.Slice (some c) (some g) none p2) pos) (cSl s t r) := .mk fun b u M0 Δ Δr M n k S w => by
  refine ev_sl11 (ha.go b u M0 Δ Δr M n _ S ((wpB_bind.1 w).mono fun x n1 w1 M1 xr A1 V1 => hc.go b u M0 Δ Δr M1 n1 _ (S.aft A1) ((wpB_bind.1 w1).mono fun y n2 w2 M2 A2 => ?_)))
  obtain ⟨i, h1, w3⟩ := wpB_ofO (wpB_bind.1 w2)
  rw [intOf_is h1, rn_int]
  have A12 := A1.trans A2
  refine ⟨i, rfl, hg.go b u M0 Δ Δr M2 n2 _ (S.aft A12) ((wpB_bind.1 w3).mono fun z n3 w4 M3 A3 => ?_)⟩
  obtain ⟨j, h2, w5⟩ := wpB_ofO (wpB_bind.1 w4)
  obtain ⟨d, h3, h4⟩ := wpB_ofO w5
  rw [intOf_is h2, rn_int]
  exact ⟨j, rfl, sl_ok h3 ((V1.keep A2.keep).keep A3.keep) (h4 M3 (A12.trans A3))⟩
/-- x[::-1] -/
def revO : D → Option D
  | .tup ds => some (.tup ds.reverse)
  | _ => none
theorem i_revT {j : Nat} {p1 p2 p3 : Pos} (ha : IE γ X a s) : IE γ X (.Subscript a (.Slice none none (some (.UnaryOp .USub (.Constant (.int 1) j p1) p2)) p3) pos) (c1 revO s) := i_one (fun _ _ _ h => ev_revT h) (fun ρ x d M k e h => by
  unfold revO at e
  split at e
  · cases e
    rw [rn_tup, rnL_map, List.map_reverse] at h
    rw [rn_tup, rnL_map]
    exact ⟨_, rfl, h⟩
  · cases e) ha
def aRev (s : SE) : SA := fun Δ => (s Δ).bind fun d => (ofO (lsV d)).bind fun ds => .ret ds.reverse
theorem l_rev {j : Nat} {p1 p2 p3 : Pos} (ha : IV γ X a s) : IL γ X (.Subscript a (.Slice none none (some (.UnaryOp .USub (.Constant (.int 1) j p1) p2)) p3) pos) (aRev s) := .mk fun b u M0 Δ Δr M n k S w => el_rev (ha.go b u M0 Δ Δr M n _ S ((wpB_bind.1 w).mono fun d n1 w1 M1 dr A1 V1 => by
  obtain ⟨ds, h1, h2⟩ := wpB_ofO (wpB_bind.1 w1)
  have h3 := h2 M1 A1
  rw [rnL_map, List.map_reverse, ← rnL_map] at h3
  exact ⟨_, vw_ls h1 V1, h3⟩))
end
end DL
end
section
set_option Elab.async false
set_option linter.all false
set_option maxRecDepth 100000
namespace DL
open PySem L2 PyProof.Rows
/-! ### sorting -/
def insI (x : Int) : List Int → List Int
  | [] => [x]
  | y :: r => if x ≤ y then x :: y :: r else y :: insI x r
def sortI : List Int → List Int
  | [] => []
  | x :: r => insI x (sortI r)
/-- texts, with those that come again -/
def insT (x : Str) : List Str → List Str
  | [] => [x]
  | y :: r => if lts y x = true then y :: insT x r else x :: y :: r
def sortT : List Str → List Str
  | [] => []
  | x :: r => insT x (sortT r)
section
variable {γ : Nat → Addr} {X : Cx} {a c e e2 tg : Expr} {es rest : List Expr} {pos p : Pos} {x : Str} {op : CmpOp} {s t : SE}
/-! ### built-ins -/
theorem i_len (hg : Gl X "len") (hm : X.mg "len" = none) (h : IV γ X e s) (hs : starEach [e] X.env = [(false, eval e X.env)] := by rfl) : IE γ X (.Call (.Name "len" p) [e] [] pos) (c1 lenO' s) := i_oneV (fun _ _ _ h => ev_len hg hm h hs) len_ok h
theorem i_all (hc : X.calm = true) (hg : Gl X "all") (hm : X.mg "all" = none) (h : IV γ X e s) (hs : starEach [e] X.env = [(false, eval e X.env)] := by rfl) : IE γ X (.Call (.Name "all" p) [e] [] pos) (c1 allO s) := i_oneV (fun _ _ _ h => ev_all hc hg hm h hs) all_ok h
/-- sorted: of ints, of texts -/
def srtO (ds : List D) : Option (List D) := match unI ds with
  | some ns => some ((sortI ns).map D.int)
  | none => (unS ds).bind fun xs => if xs.length < 64 then some ((sortT xs).map D.str) else none
def aSort (s : SE) : SA := fun Δ => (s Δ).bind fun d => ofO ((lsV d).bind srtO)
/-- list(x), tuple(x) -/
def itemsV : D → Option (List D)
  | .str z => if z.cps.size ≤ lim then some (signs z) else none
  | d => seqV d
def aList (s : SE) : SA := fun Δ => (s Δ).bind fun d => ofO (itemsV d)
theorem rn_signs {ρ : Nat → Addr} (z : Str) : rnL ρ (signs z) = signs z := by
  unfold signs
  rw [rnL_map, List.map_map]
  exact List.map_congr_left fun i _ => rn_str _
theorem l_list (hc : X.calm = true) (hg : Gl X "list") (hm : X.mg "list" = none) (h : IV γ X e s) (hs : starEach [e] X.env = [(false, eval e X.env)] := by rfl) : IL γ X (.Call (.Name "list" p) [e] [] pos) (aList s) := .mk fun b u M0 Δ Δr M n k S w => by
  refine el_callT (call_list_of.or (cr_listS hc)) hg hm (by decide +kernel) (by decide) (by decide) hs rfl (one1 (h.go b u M0 Δ Δr M n _ S ((wpB_bind.1 w).mono fun d n1 w1 M1 dr A1 V1 => ?_)) hs)
  obtain ⟨ds, h1, h2⟩ := wpB_ofO w1
  have hk := h2 M1 A1
  refine fun F0 M0' H0 F H vs Q st ok i post => ?_
  obtain ⟨v, rfl, iv⟩ := isL1 i
  unfold itemsV at h1
  split at h1
  · split at h1
    · rename_i z hz
      cases h1
      rw [rn_signs] at hk
      rcases V1 with rfl | ⟨q, es, _, e2, _⟩
      · rw [rn_str] at iv
        rw [is_str.1 iv]
        exact .inr ⟨z, rfl, by rw [lim_eq]; exact hz, fun vs l il hl => post.new st ok hk hl (il _ _)⟩
      · cases e2
    · cases h1
  · obtain ⟨q, ws, rfl, hq, hl⟩ := seq_of ok (vw_seq h1 V1) iv
    exact .inl ⟨q, ws, rfl, hq, fun t ht => post.new st ok hk ht hl⟩
def tupO (d : D) : Option D := (itemsV d).map D.tup
theorem i_tuple (hc : X.calm = true) (hg : Gl X "tuple") (hm : X.mg "tuple" = none) (h : IV γ X e s) (hs : starEach [e] X.env = [(false, eval e X.env)] := by rfl) : IE γ X (.Call (.Name "tuple" p) [e] [] pos) (c1 tupO s) := .mk fun b u M0 Δ Δr M n k S w => by
  refine ev_callT (call_tupleB.or (cr_tupleS hc)) hg hm (by decide +kernel) (by decide) (by decide) hs rfl (one1 (h.go b u M0 Δ Δr M n _ S ((wpB_bind.1 w).mono fun d n1 w1 M1 dr A1 V1 => ?_)) hs)
  obtain ⟨d2, h1, h2⟩ := wpB_ofO w1
  obtain ⟨ds, h3, h4⟩ := Option.map_eq_some_iff.mp h1
  subst h4
  have hk := h2 M1 A1
  rw [rn_tup] at hk
  refine fun F H vs Q ok i post => ?_
  obtain ⟨v, rfl, iv⟩ := isL1 i
  unfold itemsV at h3
  split at h3
  · split at h3
    · rename_i z hz
      cases h3
      rw [rn_signs] at hk
      rcases V1 with rfl | ⟨q, es, _, e2, _⟩
      · rw [rn_str] at iv
        rw [is_str.1 iv]
        refine .inr ⟨z, rfl, by rw [lim_eq]; exact hz, fun vs il l ob hl hd => ?_⟩
        have nw := ok.new (o := .frz ob (.tup vs)) hl
        exact post _ M1 _ _ _ hk nw.2 nw.1 (is_tup.2 ⟨l, vs, rfl, .inl ⟨ob, hd, upd_same⟩, il _ _⟩)
      · cases e2
    · cases h3
  · cases ht : tupOf dr with
    | some es =>
      have e := tupOf_is ht
      subst e
      have := vw_seq h3 V1
      cases (show some es = some (rnL _ ds) from this)
      obtain ⟨q, ws, rfl, hq, hl⟩ := is_tup.1 iv
      exact .inl ⟨q, ws, rfl, .inr ⟨ok.sqT hq, post.here ok hk (is_tup.2 ⟨q, ws, rfl, hq, hl⟩)⟩⟩
    | none =>
      have h2 : lsD M1 dr = some (rnL (rho γ u) ds) := by
        have h1 := vw_seq h3 V1
        unfold seqD at h1
        unfold lsD
        cases dr with
        | tup z => cases ht
        | _ => exact h1
      obtain ⟨q, ws, rfl, hq, hl⟩ := ls_of ok h2 iv
      exact .inl ⟨q, ws, rfl, .inl ⟨hq, fun t ob ht hd => post.fresh ok hk ht (tup_new hd hl (ok.fresh ht).1)⟩⟩
/-- isinstance of built-in kinds -/
theorem tyD_rn {ρ : Nat → Addr} {d : D} {z : String} (h : tyD d = some z) : tyD (rn ρ d) = some z := by
  unfold tyD at h
  split at h <;> first | cases h | skip
  · rw [rn_non]; rfl
  · rw [rn_bl]; rfl
  · rw [rn_int]; rfl
  · rw [rn_str]; rfl
  · rw [rn_tup]; rfl
  · rw [rn_lst]; rfl
def tyOf : D → Option String
  | .ty n => some n
  | _ => none
theorem tyOf_is {d : D} {n : String} (h : tyOf d = some n) : d = .ty n := by
  unfold tyOf at h
  split at h
  · cases h; rfl
  · cases h
def isiO (x y : D) : Option D := (tyD x).bind fun z => (tyOf y).bind fun t => (kt z t).map D.bl
theorem i_isi (hg : Gl X "isinstance") (hm : X.mg "isinstance" = none) (h : IE γ X e s) (h2 : IE γ X e2 t) (hs : starEach [e, e2] X.env = (false, eval e X.env) :: starEach [e2] X.env := by rfl) (hs2 : starEach [e2] X.env = [(false, eval e2 X.env)] := by rfl) (hpl : (backTo pos (starEach [e2] X.env)).any (·.1) = false := by rfl) : IE γ X (.Call (.Name "isinstance" p) [e, e2] [] pos) (c2 isiO s t) :=
  i_two (fun _ _ _ h => ev_isi hg hm h hs hs2 hpl) (fun ρ x y d M k q h => by
    obtain ⟨z, h1, q⟩ := Option.bind_eq_some_iff.mp q
    obtain ⟨n, h2, q⟩ := Option.bind_eq_some_iff.mp q
    obtain ⟨c, h3, rfl⟩ := Option.map_eq_some_iff.mp q
    rw [rn_bl] at h
    rw [tyOf_is h2, rn_ty]
    exact ⟨z, n, c, tyD_rn h1, rfl, h3, h⟩) h h2
def unT : List D → Option (List String)
  | [] => some []
  | .ty n :: r => (unT r).map (n :: ·)
  | _ => none
theorem unT_eq : ∀ {ds : List D} {ns : List String}, unT ds = some ns → ds = ns.map D.ty
  | [], _, h => by cases h; rfl
  | d :: r, ns, h => by
    cases d with
    | ty i =>
      obtain ⟨ms, h1, h2⟩ := Option.map_eq_some_iff.mp (show (unT r).map (i :: ·) = some ns from h)
      subst h2
      rw [unT_eq h1]; rfl
    | _ => cases h
theorem rn_tys {ρ : Nat → Addr} (ns : List String) : rnL ρ (ns.map D.ty) = ns.map D.ty := by
  rw [rnL_map, List.map_map]; exact List.map_congr_left fun i _ => rn_ty i
def cIsiT (s : SE) (t : SA) : SE := fun Δ => (s Δ).bind fun x => (t Δ).bind fun ds => ofO ((tyD x).bind fun z => (unT ds).bind fun ts => if ts.length ≤ 1000 then (ktAny z ts).map D.bl else none)
theorem i_isiT {p2 : Pos} {x1 : Nat} {t : SA} (hg : Gl X "isinstance") (hm : X.mg "isinstance" = none) (h : IE γ X e s) (h2 : IA γ X es t) (hs : starEach [e, .Tuple es x1 p2] X.env = (false, eval e X.env) :: starEach [.Tuple es x1 p2] X.env := by rfl) (hs2 : starEach [.Tuple es x1 p2] X.env = [(false, eval (.Tuple es x1 p2) X.env)] := by rfl) (hpl : (backTo pos (starEach [.Tuple es x1 p2] X.env)).any (·.1) = false := by rfl) : IE γ X (.Call (.Name "isinstance" p) [e, .Tuple es x1 p2] [] pos) (cIsiT s t) := .mk fun b u M0 Δ Δr M n k S w => by
  refine ev_isiT hg hm (h.go b u M0 Δ Δr M n _ S ((wpB_bind.1 w).mono fun d n1 w1 M1 A1 => h2.go b u M0 Δ Δr M1 n1 _ (S.aft A1) ((wpB_bind.1 w1).mono fun ds n2 w2 M2 A2 => ?_))) hs hs2 hpl
  obtain ⟨r, q, hk⟩ := wpB_ofO w2
  obtain ⟨z, h1, q⟩ := Option.bind_eq_some_iff.mp q
  obtain ⟨ts, h3, q⟩ := Option.bind_eq_some_iff.mp q
  split at q
  · rename_i hl
    obtain ⟨c, h4, rfl⟩ := Option.map_eq_some_iff.mp q
    have hk := hk M2 (A1.trans A2)
    rw [rn_bl] at hk
    exact ⟨z, ts, c, tyD_rn h1, by rw [unT_eq h3, rn_tys], Nat.le_trans hl (by rw [lim_eq]; decide), h4, hk⟩
  · cases q
/-- sep.join(texts) -/
def joinO (x y : D) : Option D := (strOf x).bind fun z => (seqV y).bind fun ds => (unS ds).bind fun ys => if (ys.map (·.length)).sum + ys.length * z.length ≤ lim then some (.str (Txt.join z ys)) else none
theorem i_join {o : Expr} {apos : Pos} (h : IE γ X o s) (h2 : IV γ X e t) (hs : starEach [e] X.env = [(false, eval e X.env)] := by rfl) (hbase : attributeBase o "join" X.env (eval o X.env) = eval o X.env := by rfl) (hline : (apos.endLine == pos.line) = true := by rfl) : IE γ X (.Call (.Attribute o "join" apos) [e] [] pos) (c2 joinO s t) := .mk fun b u M0 Δ Δr M n k S w => by
  refine ev_join (h.go b u M0 Δ Δr M n (fun d M1 => ∃ z : Str, d = .str z ∧ EvD X e Δr M1 fun d2 M2 => ∃ ys : List Str, seqD M2 d2 = some (ys.map D.str) ∧ (ys.map (·.length)).sum + ys.length * z.length ≤ 16777216 ∧ k (.str (Txt.join z ys)) M2) S ((wpB_bind.1 w).mono fun d n1 w1 M1 A1 => ?_)) hs hbase hline
  have w1 := wpB_bind.1 w1
  cases hz : strOf d with
  | none =>
    -- the joined text fails: there is no way on
    refine (?_ : False).elim
    have go : ∀ (p : Pg D) (n : Nat), wpB b n p (fun y m => wpB b m (ofO (joinO d y)) fun d n' => ∀ M', Aft b u M M' n' → k (rn (rho γ u) d) M') → False := fun p => by
      induction p with
      | ret y =>
        intro n h
        have h' : wpB b n (ofO (joinO d y)) _ := h
        obtain ⟨r, q, _⟩ := wpB_ofO h'
        unfold joinO at q
        rw [hz] at q
        cases q
      | fail => intro n h; exact h
      | exn _ => intro n h; exact h
      | draw low f ih =>
        intro n h
        obtain ⟨_, h2, _, m, _, h5⟩ := h
        exact ih 0 m (h5 0 (Int.le_refl _) h2)
    exact go _ _ w1
  | some z =>
    have e1 : d = .str z := by
      unfold strOf at hz
      split at hz
      · cases hz; rfl
      · cases hz
    subst e1
    rw [rn_str]
    refine ⟨z, rfl, h2.go b u M0 Δ Δr M1 n1 _ (S.aft A1) (w1.mono fun y n2 w2 M2 yr A2 V2 => ?_)⟩
    obtain ⟨r, q, hk⟩ := wpB_ofO w2
    obtain ⟨z', h1, q⟩ := Option.bind_eq_some_iff.mp q
    cases h1
    obtain ⟨ds, h3, q⟩ := Option.bind_eq_some_iff.mp q
    obtain ⟨ys, h4, q⟩ := Option.bind_eq_some_iff.mp q
    split at q
    · rename_i hl
      cases q
      have hk := hk M2 (A1.trans A2)
      rw [rn_str] at hk
      exact ⟨ys, by rw [vw_seq h3 V2, unS_eq h4, rn_strs], hl, hk⟩
    · cases q
/-! ### calls -/
def spW (γ : Nat → Addr) (fl : List Bool) (F : List D → Pg D) : SpD := fun drs M k => ∃ b u ds n, VwL (rho γ u) b M fl ds drs ∧ UrnB b M u.1 n ∧ wpB b n (F ds) fun d n' => ∀ M', Aft b u M M' n' → k (rn (rho γ u) d) M'
/-- the arguments of a call -/
structure IAW (γ : Nat → Addr) (X : Cx) (fl : List Bool) (es : List Expr) (s : SA) : Prop where
  go : ∀ b u M0 Δ Δr M n (k : AK), SI γ b u M0 Δ Δr M n → wpB b n (s Δ) (fun ds n' => ∀ M' drs, Aft b u M M' n' → VwL (rho γ u) b M' fl ds drs → k drs M') → EvA X es Δr M k
theorem w_nil {s : SA} (h : IA γ X es s) : IAW γ X [] es s := .mk fun b u M0 Δ Δr M n k S w => h.go b u M0 Δ Δr M n k S (w.mono fun ds m q M' A => q M' _ A (by unfold VwL; rfl))
theorem w_v {fl : List Bool} {t : SA} (h : IE γ X e s) (ht : IAW γ X fl es t) (hs : starEach (e :: es) X.env = (false, eval e X.env) :: starEach es X.env := by rfl) : IAW γ X (false :: fl) (e :: es) (aC s t) := .mk fun b u M0 Δ Δr M n k S w => ea_cons (h.go b u M0 Δ Δr M n _ S ((wpB_bind.1 w).mono fun d n1 w1 M1 A1 => ht.go b u M0 Δ Δr M1 n1 _ (S.aft A1) ((wpB_bind.1 w1).mono fun ds n2 w2 M2 drs A2 V => w2 M2 _ (A1.trans A2) (by unfold VwL; exact ⟨rfl, V⟩)))) hs
theorem w_w {fl : List Bool} {t : SA} (h : IV γ X e s) (ht : IAW γ X fl es t) (hs : starEach (e :: es) X.env = (false, eval e X.env) :: starEach es X.env := by rfl) : IAW γ X (true :: fl) (e :: es) (aC s t) := .mk fun b u M0 Δ Δr M n k S w => ea_cons (h.go b u M0 Δ Δr M n _ S ((wpB_bind.1 w).mono fun d n1 w1 M1 dr A1 V1 => ht.go b u M0 Δ Δr M1 n1 _ (S.aft A1) ((wpB_bind.1 w1).mono fun ds n2 w2 M2 drs A2 V => w2 M2 _ (A1.trans A2) (by unfold VwL; exact ⟨V1.keep A2.keep, V⟩)))) hs
def cCall (F : List D → Pg D) (s : SA) : SE := fun Δ => (s Δ).bind F
theorem i_call {n : Nat} {fl : List Bool} {F : List D → Pg D} {s : SA} (C : Cal X.prog X.w X.K X.mg X.base x n (spW γ fl F)) (hr : Room n X.A) (hg : Gl X x) (h : IAW γ X fl (e :: es) s) (hdb : (x == ("__debug__" : Str)) = false := by decide)
    (he : starEach (e :: es) X.env = (false, eval e X.env) :: starEach es X.env := by rfl) (hpl : (backTo pos (starEach es X.env)).any (·.1) = false := by rfl) : IE γ X (.Call (.Name x p) (e :: es) [] pos) (cCall F s) := .mk fun b u M0 Δ Δr M n k S w =>
  ev_call C hr hg (h.go b u M0 Δ Δr M n _ S ((wpB_bind.1 w).mono fun ds n1 w1 M1 drs A1 V => ⟨b, u, ds, n1, V, A1.urn, w1.mono fun d n2 q M2 A2 => q M2 (A1.trans A2)⟩)) hdb he hpl
theorem i_call0 {n : Nat} {F : List D → Pg D} (C : Cal X.prog X.w X.K X.mg X.base x n (spW γ [] F)) (hr : Room n X.A) (hg : Gl X x) (hdb : (x == ("__debug__" : Str)) = false := by decide) : IE γ X (.Call (.Name x p) [] [] pos) (cCall F aN) := .mk fun b u M0 Δ Δr M n k S w =>
  ev_call0 C hr hg ⟨b, u, [], n, by unfold VwL rnL; rfl, S.urn, w⟩ hdb
/-! x == y, the first a view -/
end
end DL
end
section
set_option Elab.async false
set_option linter.all false
set_option maxRecDepth 100000
namespace DL
open PySem L2 PyProof.Rows
/-! ### slots set, wiped -/
section
variable {ρ : Nat → Addr} {b : Bool} {M0 M : Store} {Δ : List Sl} {Δr : DS}
theorem set_get {α : Type} {l : List α} {i j : Nat} {x y : α} (h : (l.set i x)[j]? = some y) : (j = i ∧ i < l.length ∧ y = x) ∨ (j ≠ i ∧ l[j]? = some y) := by
  by_cases e : j = i
  · subst e
    have hj : j < l.length := by
      by_cases hj : j < l.length
      · exact hj
      · rw [List.getElem?_eq_none (by rw [List.length_set]; omega)] at h; cases h
    rw [List.getElem?_set_self hj] at h
    exact .inl ⟨rfl, hj, (Option.some.inj h).symm⟩
  · rw [List.getElem?_set_ne (Ne.symm e)] at h
    exact .inr ⟨e, h⟩
theorem Rel.setV (r : Rel ρ an b M0 Δ Δr M) (i : Nat) (d : D) : Rel ρ an b M0 (Δ.set i (.v d)) (Δr.set i (some (rn ρ d))) M := by
  refine ⟨by rw [List.length_set, List.length_set]; exact r.len, fun j c h => ?_, fun j m h => ?_, fun j l m m' q n h1 h2 h3 h4 => ?_, fun j c h => ?_⟩
  · rcases set_get h with ⟨rfl, hi, e⟩ | ⟨hn, h⟩
    · cases e
      exact List.getElem?_set_self (by rw [← r.len]; exact hi)
    · rw [List.getElem?_set_ne (Ne.symm hn)]
      exact r.v j c h
  · rcases set_get h with ⟨rfl, hi, e⟩ | ⟨hn, h⟩
    · cases e
    · rw [List.getElem?_set_ne (Ne.symm hn)]
      exact r.o j m h
  · rcases set_get h1 with ⟨rfl, hi, e⟩ | ⟨hn1, h1⟩
    · cases e
    · rcases set_get h2 with ⟨rfl, hi, e⟩ | ⟨hn2, h2⟩
      · cases e
      · rw [List.getElem?_set_ne (Ne.symm hn1)] at h3
        rw [List.getElem?_set_ne (Ne.symm hn2)] at h4
        exact r.inj j l m m' q n h1 h2 h3 h4
  · rcases set_get h with ⟨rfl, hi, e⟩ | ⟨hn, h⟩
    · cases e
    · rw [List.getElem?_set_ne (Ne.symm hn)]
      exact r.w j c h
theorem Rel.wipe1 (r : Rel ρ an b M0 Δ Δr M) (i : Nat) (z : Option D) : Rel ρ an b M0 (Δ.set i .e) (Δr.set i z) M := by
  refine ⟨by rw [List.length_set, List.length_set]; exact r.len, fun j c h => ?_, fun j m h => ?_, fun j l m m' q n h1 h2 h3 h4 => ?_, fun j c h => ?_⟩
  · rcases set_get h with ⟨rfl, hi, e⟩ | ⟨hn, h⟩
    · cases e
    · rw [List.getElem?_set_ne (Ne.symm hn)]
      exact r.v j c h
  · rcases set_get h with ⟨rfl, hi, e⟩ | ⟨hn, h⟩
    · cases e
    · rw [List.getElem?_set_ne (Ne.symm hn)]
      exact r.o j m h
  · rcases set_get h1 with ⟨rfl, hi, e⟩ | ⟨hn1, h1⟩
    · cases e
    · rcases set_get h2 with ⟨rfl, hi, e⟩ | ⟨hn2, h2⟩
      · cases e
      · rw [List.getElem?_set_ne (Ne.symm hn1)] at h3
        rw [List.getElem?_set_ne (Ne.symm hn2)] at h4
        exact r.inj j l m m' q n h1 h2 h3 h4
  · rcases set_get h with ⟨rfl, hi, e⟩ | ⟨hn, h⟩
    · cases e
    · rw [List.getElem?_set_ne (Ne.symm hn)]
      exact r.w j c h
end
def wipeS (Δ : List Sl) : List Nat → List Sl
  | [] => Δ
  | v :: vs => (wipeS Δ vs).set v .e
theorem Rel.wipe {ρ : Nat → Addr} {b : Bool} {M0 M : Store} {Δ : List Sl} {Δr : DS} (r : Rel ρ an b M0 Δ Δr M) : ∀ vs : List Nat, Rel ρ an b M0 (wipeS Δ vs) (wipeD Δr vs) M
  | [] => r
  | v :: vs => (r.wipe vs).wipe1 v none
/-! ### targets -/
inductive Tg where
  | nm (i : Nat) | tp (ts : List Tg)
mutual
def tgS : Tg → D → List Sl → Option (List Sl)
  | .nm i, d, Δ => some (Δ.set i (.v d))
  | .tp ts, .tup ds, Δ => tgSs ts ds Δ
  | .tp ts, .lst ds, Δ => tgSs ts ds Δ
  | .tp _, _, _ => none
def tgSs : List Tg → List D → List Sl → Option (List Sl)
  | [], [], Δ => some Δ
  | t :: ts, d :: ds, Δ => (tgS t d Δ).bind fun Δ1 => tgSs ts ds Δ1
  | _, _, _ => none
end
mutual
def tgR : Tg → D → DS → DS
  | .nm i, d, Δ => Δ.set i (some d)
  | .tp ts, .tup ds, Δ => tgRs ts ds Δ
  | .tp ts, .lst ds, Δ => tgRs ts ds Δ
  | .tp _, _, Δ => Δ
def tgRs : List Tg → List D → DS → DS
  | t :: ts, d :: ds, Δ => tgRs ts ds (tgR t d Δ)
  | _, _, Δ => Δ
end
mutual
def fitT : Tg → D → Bool
  | .nm _, _ => true
  | .tp ts, .tup ds => fitTs ts ds
  | .tp ts, .lst ds => fitTs ts ds
  | .tp _, _ => false
def fitTs : List Tg → List D → Bool
  | [], [] => true
  | t :: ts, d :: ds => fitT t d && fitTs ts ds
  | _, _ => false
end
/-- a target, whatever comes -/
def GT (X : Cx) (tg : Expr) (t : Tg) (sl : List Nat) : Prop := ∀ d Δ, fitT t d = true → GdD X tg d Δ (tgR t d Δ) sl
def GTs (X : Cx) (tgs : List Expr) (ts : List Tg) (sl : List Nat) : Prop := ∀ ds Δ, fitTs ts ds = true → GdsD X tgs ds Δ (tgRs ts ds Δ) sl
theorem fitTs_len : ∀ {ts : List Tg} {ds : List D}, fitTs ts ds = true → ds.length = ts.length
  | [], [], _ => rfl
  | t :: ts, d :: ds, h => by
    unfold fitTs at h
    rw [List.length_cons, List.length_cons, fitTs_len (Bool.and_eq_true_iff.mp h).2]
  | [], _ :: _, h => by unfold fitTs at h; cases h
  | _ :: _, [], h => by unfold fitTs at h; cases h
section
variable {X : Cx} {tg : Expr} {tgs : List Expr} {x : Str} {pos : Pos} {sl sl2 : List Nat} {t : Tg} {ts : List Tg}
theorem g_name {i : Nat} (hN : X.N.Nodup) (hi : X.N[i]? = some x) (hx : Loc X.env.scope x) (hf : X.fn x = true ∨ X.env.scope.names.lookup x = some .local) : GT X (.Name x pos) (.nm i) [i] := fun d Δ _ => by
  unfold tgR
  exact gd_name hN hi hx hf
theorem gs_nil : GTs X [] [] [] := fun ds Δ h => by
  cases ds with
  | nil => unfold tgRs; exact gds_nil
  | cons _ _ => unfold fitTs at h; cases h
theorem gs_cons (h1 : GT X tg t sl) (h2 : GTs X tgs ts sl2) (hs : (assignEach (tg :: tgs) X.env).map (·.2) = assign tg X.env :: (assignEach tgs X.env).map (·.2) := by rfl) : GTs X (tg :: tgs) (t :: ts) (sl ++ sl2) := fun ds Δ h => by
  cases ds with
  | nil => unfold fitTs at h; cases h
  | cons d ds =>
    unfold fitTs at h
    obtain ⟨a, c⟩ := Bool.and_eq_true_iff.mp h
    unfold tgRs
    exact gds_cons (h1 d Δ a) (h2 ds _ c) hs
theorem g_tup {n : Nat} {kt : Nat} (hc : X.calm = true) (h : GTs X tgs ts sl) (hl : ts.length = n) (hn : (assignEach tgs X.env).length = n := by rfl) (hst : (assignEach tgs X.env).findIdx? (·.1) = none := by rfl) : GT X (.Tuple tgs kt pos) (.tp ts) sl := fun d Δ q => by
  cases d with
  | tup ds =>
    unfold fitT at q
    unfold tgR
    exact gd_tup hc (h ds Δ q) (by rw [fitTs_len q]; exact hl) hn hst
  | lst ds =>
    unfold fitT at q
    unfold tgR
    exact gd_lst hc (h ds Δ q) (by rw [fitTs_len q]; exact hl) hn hst
  | _ => unfold fitT at q; cases q
end
mutual
theorem tg_rel {ρ : Nat → Addr} {b : Bool} {M0 M : Store} : ∀ {t : Tg} {d : D} {Δ Δ' : List Sl} {Δr : DS}, Rel ρ an b M0 Δ Δr M → tgS t d Δ = some Δ' → fitT t (rn ρ d) = true ∧ Rel ρ an b M0 Δ' (tgR t (rn ρ d) Δr) M
  | .nm i, d, Δ, Δ', Δr, r, h => by
    unfold tgS at h
    cases h
    unfold fitT tgR
    exact ⟨rfl, r.setV i d⟩
  | .tp ts, d, Δ, Δ', Δr, r, h => by
    cases d with
    | tup ds =>
      unfold tgS at h
      rw [rn_tup]
      unfold fitT tgR
      exact tgs_rel r h
    | lst ds =>
      unfold tgS at h
      rw [rn_lst]
      unfold fitT tgR
      exact tgs_rel r h
    | _ => unfold tgS at h; cases h
theorem tgs_rel {ρ : Nat → Addr} {b : Bool} {M0 M : Store} : ∀ {ts : List Tg} {ds : List D} {Δ Δ' : List Sl} {Δr : DS}, Rel ρ an b M0 Δ Δr M → tgSs ts ds Δ = some Δ' → fitTs ts (rnL ρ ds) = true ∧ Rel ρ an b M0 Δ' (tgRs ts (rnL ρ ds) Δr) M
  | [], [], Δ, Δ', Δr, r, h => by
    unfold tgSs at h
    cases h
    unfold rnL fitTs tgRs
    exact ⟨rfl, r⟩
  | t :: ts, d :: ds, Δ, Δ', Δr, r, h => by
    unfold tgSs at h
    obtain ⟨Δ1, h1, h2⟩ := Option.bind_eq_some_iff.mp h
    obtain ⟨a1, a2⟩ := tg_rel r h1
    obtain ⟨b1, b2⟩ := tgs_rel a2 h2
    unfold rnL fitTs tgRs
    exact ⟨by rw [a1, b1]; rfl, b2⟩
  | [], _ :: _, _, _, _, _, h => by unfold tgSs at h; cases h
  | _ :: _, [], _, _, _, _, h => by unfold tgSs at h; cases h
end
/-! ### what is gone through -/
section
variable {γ : Nat → Addr} {X : Cx} {a c e e2 tg : Expr} {es rest elts : List Expr} {pos p tpos : Pos} {x : Str} {s t : SE} {kk : Nat}
/-- a list, a tuple, a text -/
def iAny (K : PySem.W.Frag) (te : TE) : TI := fun σ H R => te σ H fun v H1 => (∃ l, v = .ref l ∧ (∃ xs, SqL K H1 l xs) ∧ R (Itl K l) H1) ∨ (∃ l, v = .ref l ∧ (∃ xs, SqT K H1 l xs) ∧ R (Itt K l) H1) ∨ ∃ z, v = .str z ∧ R (Its z) H1
theorem pi_dyn {te : TE} (he : PE X e te) : PI X tg e (iAny X.K te) := by
  constructor
  intro pins s σ H R I h
  refine thn (he.run pins s σ H _ I h) ?_
  rintro v s1 ⟨w, H1, I1, r1, q1⟩
  rcases q1 with ⟨l, rfl, ⟨xs, hq⟩, q⟩ | ⟨l, rfl, ⟨xs, hq⟩, q⟩ | ⟨z, rfl, q⟩
  · cases r1
    obtain ⟨its, rv, pl, _⟩ := I1.list hq
    refine wpAny_pyIter_list pl.isList ⟨_, [_], _, _, H1, rfl, I1.kept (t' := s1.toks) (fun b o e => Heap.get?_push_of_some _ e), turn_list l _, ⟨_, Heap.get?_push_size _ rfl, rfl, rfl⟩, ?_, q⟩
    intro b hb
    obtain rfl : b = s1.heap.objs.size := by simpa using hb
    exact I1.fpOk (Nat.le_refl _) (I1.hok.fresh (Nat.le_refl _))
  · cases r1
    obtain ⟨its, rv, pl, _⟩ := I1.tuple hq
    refine wpAny_pyIter_tuple (show s1.heap.IsTuple l its.toArray from pl) ⟨_, [_], _, _, H1, rfl, I1.kept (t' := s1.toks) (fun b o e => Heap.get?_push_of_some _ e), turn_tuple l _, ⟨_, Heap.get?_push_size _ rfl, rfl, rfl⟩, ?_, q⟩
    intro b hb
    obtain rfl : b = s1.heap.objs.size := by simpa using hb
    exact I1.fpOk (Nat.le_refl _) (I1.hok.fresh (Nat.le_refl _))
  · obtain ⟨t, rfl⟩ := r1
    cases ha : z.cps.all (· < 128) with
    | false => exact wpAny_pyIter_wide ha (pi_one (tk := s1.toks) I1 _ (turn_str _ z t "str_iterator" (.inr rfl)) ⟨_, Heap.get?_push_size _ rfl, rfl, rfl⟩ q)
    | true => exact wpAny_pyIter_ascii ha (pi_one (tk := s1.toks) I1 _ (turn_str _ z t "str_ascii_iterator" (.inl rfl)) ⟨_, Heap.get?_push_size _ rfl, rfl, rfl⟩ q)
def itO : D → Option (List D)
  | .str z => some (signs z)
  | d => seqV d
def aIt (s : SE) : SA := fun Δ => (s Δ).bind fun d => ofO (itO d)
theorem n_any (h : IE γ X e s) : II γ X tg e (aIt s) := .mk fun b u M0 Δ Δr M n k S w F H σ R hS ok post =>
  semI_of (pi_dyn pe_sem) (h.go b u M0 Δ Δr M n (fun d M1 => ∃ ds, ((d = .lst ds ∨ d = .frl ds) ∨ d = .tup ds ∨ ∃ z, d = .str z ∧ ds = signs z) ∧ k ds M1) S ((wpB_bind.1 w).mono fun d n1 w1 M1 A1 => by
    obtain ⟨ds, h1, h2⟩ := wpB_ofO w1
    have hk := h2 M1 A1
    unfold itO at h1
    split at h1
    · cases h1
      rw [rn_signs] at hk
      exact ⟨_, .inr (.inr ⟨_, rn_str _, rfl⟩), hk⟩
    · unfold seqV at h1
      split at h1
      · cases h1; exact ⟨_, .inr (.inl (rn_tup _)), hk⟩
      · cases h1; exact ⟨_, .inl (.inl (rn_lst _)), hk⟩
      · cases h1; exact ⟨_, .inl (.inr (rn_frl _)), hk⟩
      · cases h1) F H σ _ hS ok fun d M1 F1 H1 v ⟨ds, ed, hk⟩ st ok1 i => by
    rcases ed with (rfl | rfl) | rfl | ⟨z, rfl, rfl⟩
    · obtain ⟨q, vs, e, hq, il⟩ := is_lst.1 i
      exact .inl ⟨q, e, ⟨vs, SqL.of (ok1.lst hq)⟩, post ds M1 F1 H1 _ hk st ok1 (rep_list hq il)⟩
    · obtain ⟨q, vs, e, hq, il⟩ := is_frl.1 i
      exact .inl ⟨q, e, ⟨vs, ok1.sqL hq⟩, post ds M1 F1 H1 _ hk st ok1 (rep_frl hq il)⟩
    · obtain ⟨q, vs, e, hq, il⟩ := is_tup.1 i
      exact .inr (.inl ⟨q, e, ⟨vs, ok1.sqT hq⟩, post ds M1 F1 H1 _ hk st ok1 (rep_tup hq il)⟩)
    · exact .inr (.inr ⟨z, is_str.1 i, post _ M1 F1 H1 _ hk st ok1 rep_str⟩))
theorem rn_rng {ρ : Nat → Addr} (lo : Int) (m : Nat) : rnL ρ (rngD lo m) = rngD lo m := by
  unfold rngD
  rw [rnL_map, List.map_map]
  exact List.map_congr_left fun i _ => rn_int _
def inR (j : Int) : Bool := nsm 4611686018427387903 j
theorem inR_is {j : Int} (h : inR j = true) : -(2 ^ 62) ≤ j ∧ j < 2 ^ 62 := by
  have := nsm_is h
  constructor <;> omega
def rg1 (d : D) : Option (List D) := (intOf d).bind fun j => if inR j = true then some (rngD 0 j.toNat) else none
def aRg1 (s : SE) : SA := fun Δ => (s Δ).bind fun d => ofO (rg1 d)
theorem n_rg1 (hg : Gl X "range") (hm : X.mg "range" = none) (h : IE γ X e s) (hs : starEach [e] X.env = [(false, eval e X.env)] := by rfl) : II γ X tg (.Call (.Name "range" p) [e] [] pos) (aRg1 s) := .mk fun b u M0 Δ Δr M n k S w =>
  it_range1 hg hm (h.go b u M0 Δ Δr M n _ S ((wpB_bind.1 w).mono fun d n1 w1 M1 A1 => by
    obtain ⟨ds, h1, h2⟩ := wpB_ofO w1
    obtain ⟨j, h3, h4⟩ := Option.bind_eq_some_iff.mp h1
    split at h4
    · rename_i hj
      cases h4
      have hk := h2 M1 A1
      rw [rn_rng] at hk
      rw [intOf_is h3, rn_int]
      exact ⟨j, rfl, inR_is hj, hk⟩
    · cases h4)) hs
theorem rn_enum {ρ : Nat → Addr} (ds : List D) : rnL ρ (enumD ds) = enumD (rnL ρ ds) := by
  unfold enumD
  rw [rnL_map, rnL_map, List.map_map, List.zipIdx_map, List.map_map]
  refine List.map_congr_left fun q _ => ?_
  show rn ρ (.tup [.int (q.2 : Nat), q.1]) = .tup [.int (q.2 : Nat), rn ρ q.1]
  rw [rn_tup]
  unfold rnL
  rw [rn_int]
  unfold rnL
  unfold rnL
  rfl
theorem rn_zip {ρ : Nat → Addr} (ds es : List D) : rnL ρ (zipD ds es) = zipD (rnL ρ ds) (rnL ρ es) := by
  unfold zipD
  rw [rnL_map, rnL_map, rnL_map, List.map_map, List.zip_map, List.map_map]
  refine List.map_congr_left fun q _ => ?_
  show rn ρ (.tup [q.1, q.2]) = .tup [rn ρ q.1, rn ρ q.2]
  rw [rn_tup]
  unfold rnL
  unfold rnL
  unfold rnL
  rfl
def aEnum (s : SE) : SA := fun Δ => (s Δ).bind fun d => ofO ((lsV d).map enumD)
def zip2 : D → D → Option (List D)
  | .lst xs, .lst ys => some (zipD xs ys)
  | .tup xs, .tup ys => some (zipD xs ys)
  | _, _ => none
def aZip (s t : SE) : SA := fun Δ => (s Δ).bind fun d => (t Δ).bind fun c => ofO (zip2 d c)
theorem n_zip (hg : Gl X "zip") (hm : X.mg "zip" = none) (h : IE γ X e s) (h2 : IE γ X e2 t) (hs : starEach [e, e2] X.env = (false, eval e X.env) :: starEach [e2] X.env := by rfl) (hs2 : starEach [e2] X.env = [(false, eval e2 X.env)] := by rfl) (hpl : (backTo pos (starEach [e2] X.env)).any (·.1) = false := by rfl) : II γ X (.Tuple elts kk tpos) (.Call (.Name "zip" p) [e, e2] [] pos) (aZip s t) := .mk fun b u M0 Δ Δr M n k S w =>
  it_zip hg hm (h.go b u M0 Δ Δr M n _ S ((wpB_bind.1 w).mono fun d n1 w1 M1 A1 => h2.go b u M0 Δ Δr M1 n1 _ (S.aft A1) ((wpB_bind.1 w1).mono fun c n2 w2 M2 A2 => by
    obtain ⟨ds, h1, h2⟩ := wpB_ofO w2
    have hk := h2 M2 (A1.trans A2)
    unfold zip2 at h1
    split at h1
    · cases h1
      rw [rn_zip] at hk
      exact ⟨_, _, .inl ⟨rn_lst _, rn_lst _⟩, hk⟩
    · cases h1
      rw [rn_zip] at hk
      exact ⟨_, _, .inr ⟨rn_tup _, rn_tup _⟩, hk⟩
    · cases h1))) hs hs2 hpl
/-! ### list comprehensions -/
structure ITs (γ : Nat → Addr) (X : Cx) (ifs : List Expr) (s : SB) : Prop where
  go : ∀ b u M0 Δ Δr M n (k : BK), SI γ b u M0 Δ Δr M n → wpB b n (s Δ) (fun d n' => ∀ M', Aft b u M M' n' → k d M') → TsD X ifs Δr M k
def tYes : SB := fun _ => .ret true
theorem ts_nil : ITs γ X [] tYes := .mk fun b u M0 Δ Δr M n k S w => w M S.here
def lcP (tg : Tg) (t : SB) (elt : SE) (Δ : List Sl) : List D → Pg (List D)
  | [] => .ret []
  | d :: ds => (ofO (tgS tg d Δ)).bind fun Δ1 => (t Δ1).bind fun c => if c = true then (elt Δ1).bind fun r => (lcP tg t elt Δ ds).bind fun rs => .ret (r :: rs) else lcP tg t elt Δ ds
def aLc (tg : Tg) (vs : List Nat) (it : SA) (t : SB) (elt : SE) : SA := fun Δ => (it Δ).bind fun ds => if ds.length ≤ lim then lcP tg t elt (wipeS Δ vs) ds else .fail
theorem lc_rd {scope : Scope} {elt iter : Expr} {ifs : List Expr} {vs sl : List Nat} {tgt : Tg} {it : SA} {tb : SB} {se : SE} {b : Bool} {u : Addr × Addr} {M0 M : Store} {Δ : List Sl} {Δr : DS} {n : Nat} {ka : AK}
    (hI : II γ X tg iter it) (hsl : ∀ j ∈ sl, j ∈ vs) (hG : ∀ s H C cl fp, GT (Blk X scope s H C cl fp) tg tgt sl) (hT : ∀ s H C cl fp, ITs γ (Blk X scope s H C cl fp) ifs tb) (hE : ∀ s H C cl fp, IE γ (Blk X scope s H C cl fp) elt se)
    (S : SI γ b u M0 Δ Δr M n) (w : wpB b n (aLc tgt vs it tb se Δ) fun ds n' => ∀ M', Aft b u M M' n' → ka (rnL (rho γ u) ds) M') : LcP X scope elt tg iter ifs vs Δr M ka := by
  refine hI.go b u M0 Δ Δr M n _ S ((wpB_bind.1 w).mono fun ds n1 w1 M1 A1 => ?_)
  split at w1
  · rename_i hl
    refine ⟨fun i acc M' => ∃ n', Aft b u M M' n' ∧ acc.length ≤ i ∧ wpB b n' (lcP tgt tb se (wipeS Δ vs) (ds.drop i)) fun rs n2 => ∀ M2, Aft b u M M2 n2 → ka (acc ++ rnL (rho γ u) rs) M2, ⟨n1, A1, Nat.le_refl _, by rw [List.drop_zero]; exact w1⟩, ?_, ?_⟩
    · rintro i d acc M' hd ⟨n', A, hlen, w2⟩
      rw [rnL_get] at hd
      obtain ⟨d0, hd0, rfl⟩ := Option.map_eq_some_iff.mp hd
      have hi := (List.getElem?_eq_some_iff.mp hd0).1
      have hdr : ds.drop i = d0 :: ds.drop (i + 1) := by
        rw [List.drop_eq_getElem_cons hi]
        congr 1
        exact (List.getElem?_eq_some_iff.mp hd0).2
      rw [hdr] at w2
      obtain ⟨Δ1, h1, w3⟩ := wpB_ofO (wpB_bind.1 w2)
      have S2 : Rel (rho γ u) u.2 b M0 (wipeS Δ vs) (wipeD Δr vs) M' := (S.rel.keep A.keep).wipe vs
      obtain ⟨f1, r1⟩ := tg_rel S2 h1
      have S3 : SI γ b u M0 Δ1 (tgR tgt (rn (rho γ u) d0) (wipeD Δr vs)) M' n' := ⟨r1, A.urn, S.k0.trans A.keep⟩
      refine ⟨by rw [lim_eq]; omega, _, sl, hsl, fun s H C cl fp => hG s H C cl fp _ _ f1, (fun c M2 => ∃ n2, Aft b u M' M2 n2 ∧ wpB b n2 (if c = true then (se Δ1).bind fun r => (lcP tgt tb se (wipeS Δ vs) (ds.drop (i + 1))).bind fun rs => .ret (r :: rs) else lcP tgt tb se (wipeS Δ vs) (ds.drop (i + 1))) fun rs n2 => ∀ M2, Aft b u M M2 n2 → ka (acc ++ rnL (rho γ u) rs) M2), fun s H C cl fp => ?_, ?_⟩
      · exact (hT s H C cl fp).go b u M0 Δ1 _ M' n' _ S3 ((wpB_bind.1 w3).mono fun c n2 w4 M2 A2 => ⟨n2, A2, w4⟩)
      · rintro c M2 ⟨n2, A2, w4⟩
        have S4 := S3.aft A2
        cases c with
        | true =>
          rw [if_pos rfl] at w4 ⊢
          refine ⟨fun r M3 => ∃ r0 n3, r = rn (rho γ u) r0 ∧ Aft b u M2 M3 n3 ∧ wpB b n3 ((lcP tgt tb se (wipeS Δ vs) (ds.drop (i + 1))).bind fun rs => .ret (r0 :: rs)) fun rs n2 => ∀ M2, Aft b u M M2 n2 → ka (acc ++ rnL (rho γ u) rs) M2, fun s H C cl fp => ?_, ?_⟩
          · exact (hE s H C cl fp).go b u M0 Δ1 _ M2 n2 _ S4 ((wpB_bind.1 w4).mono fun r n3 w5 M3 A3 => ⟨r, n3, rfl, A3, w5⟩)
          · rintro r M3 ⟨r0, n3, rfl, A3, w5⟩
            refine ⟨n3, (A.trans A2).trans A3, by rw [List.length_append, List.length_singleton]; omega, (wpB_bind.1 w5).mono fun rs n4 w6 M4 A4 => ?_⟩
            have w7 := w6 M4 A4
            unfold rnL at w7
            rw [List.append_assoc]
            exact w7
        | false =>
          rw [if_neg Bool.false_ne_true] at w4 ⊢
          exact ⟨n2, A.trans A2, by omega, w4⟩
    · rintro acc M' ⟨n', A, hlen, w2⟩
      rw [rnL_len, List.drop_length] at w2
      have w3 := w2 M' A
      unfold rnL at w3
      rw [List.append_nil] at w3
      exact w3
  · exact w1.elim
theorem l_lc {scope : Scope} {own : List (Str × Nat)} {elt iter : Expr} {ifs : List Expr} {sl : List Nat} {tgt : Tg} {it : SA} {tb : SB} {se : SE} (hc : X.calm = true) (hN : X.N.Nodup) (ok : BlkOk X.N X.env.scope scope own) (hl : ifs.length ≤ 1) (hI : II γ X tg iter it) (hsl : ∀ j ∈ sl, j ∈ own.map (·.2))
    (hG : ∀ s H C cl fp, GT (Blk X scope s H C cl fp) tg tgt sl) (hT : ∀ s H C cl fp, ITs γ (Blk X scope s H C cl fp) ifs tb) (hE : ∀ s H C cl fp, IE γ (Blk X scope s H C cl fp) elt se)
    (hs : ∀ x, foldedSetIterable iter X.env x = pure x := by intro _; rfl) : IL γ X (.ListComp elt [⟨tg, iter, ifs, 0⟩] scope pos) (aLc tgt (own.map (·.2)) it tb se) := .mk fun b u M0 Δ Δr M n k S w =>
  el_lc hc hN ok hl (lc_rd hI hsl hG hT hE S w) hs
end
end DL
end
section
set_option Elab.async false
set_option linter.all false
set_option maxRecDepth 100000
namespace DL
open PySem L2 PyProof.Rows
/-! ### what stands in a slot -/
def SlIs (ρ : Nat → Addr) (b : Bool) (M0 M M' : Store) : Sl → D → Prop
  | .e, _ => False
  | .v d, dr => dr = rn ρ d
  | .w _, _ => False
  | .o m, dr => ∃ q, dr = .cell q ∧ M q = none ∧ M' q = some (rnM ρ m) ∧ M0 q = none ∧ (b = true → q ≠ ρ 0) ∧ (∀ C fs ds, m ≠ .ins C fs ds)
theorem KeepB.none {b : Bool} {u q : Addr} {M0 M : Store} {n : Nat} (k : KeepB b u M0 M) (U : UrnB b M u n) (h : M q = none) : M0 q = none ∧ (b = true → q ≠ u) := by
  have hq : b = true → q ≠ u := fun hb e => by
    subst e
    exact (U hb).some h
  refine ⟨?_, hq⟩
  cases e : M0 q with
  | none => rfl
  | some m => rw [k q m hq e] at h; cases h
section
variable {ρ : Nat → Addr} {b : Bool} {M0 M M' : Store} {Δ : List Sl} {Δr : DS}
theorem Rel.put (r : Rel ρ an b M0 Δ Δr M) (K : KeepB b (ρ 0) M M') {sl : Sl} {dr : D} (h : SlIs ρ b M0 M M' sl dr) (i : Nat) : Rel ρ an b M0 (Δ.set i sl) (Δr.set i (some dr)) M' := by
  cases sl with
  | e => exact h.elim
  | w d => exact h.elim
  | v d => cases h; exact (r.keep K).setV i d
  | o m =>
    obtain ⟨q, rfl, h1, h2, h3, h4, h5⟩ := h
    refine ⟨by rw [List.length_set, List.length_set]; exact r.len, fun j c h => ?_, fun j m' h => ?_, fun j l m1 m2 q' n g1 g2 g3 g4 => ?_, fun j c h => ?_⟩
    · rcases set_get h with ⟨rfl, hi, e⟩ | ⟨hn, h⟩
      · cases e
      · rw [List.getElem?_set_ne (Ne.symm hn)]
        exact r.v j c h
    · rcases set_get h with ⟨rfl, hi, e⟩ | ⟨hn, h⟩
      · cases e
        exact ⟨q, List.getElem?_set_self (by rw [← r.len]; exact hi), h2, h3, h4, fun C fs ds e => (h5 C fs ds e).elim⟩
      · rw [List.getElem?_set_ne (Ne.symm hn)]
        exact (r.keep K).o j m' h
    · have old : ∀ (j : Nat) (m' : MO), Δ[j]? = some (Sl.o m') → Δr[j]? ≠ some (some (D.cell q)) := fun j m' g e => by
        obtain ⟨q2, e1, e2, _⟩ := r.o j m' g
        rw [e1] at e
        cases e
        rw [h1] at e2
        cases e2
      rcases set_get g1 with ⟨e1, hi, _⟩ | ⟨hn1, h1'⟩
      · subst e1
        rw [List.getElem?_set_self (by rw [← r.len]; exact hi)] at g3
        cases g3
        rcases set_get g2 with ⟨e2, _, _⟩ | ⟨hn2, h2'⟩
        · exact n e2.symm
        · rw [List.getElem?_set_ne (Ne.symm hn2)] at g4
          exact old l m2 h2' g4
      · rw [List.getElem?_set_ne (Ne.symm hn1)] at g3
        rcases set_get g2 with ⟨e2, hi, _⟩ | ⟨hn2, h2'⟩
        · subst e2
          rw [List.getElem?_set_self (by rw [← r.len]; exact hi)] at g4
          cases g4
          exact old j m1 h1' g3
        · rw [List.getElem?_set_ne (Ne.symm hn2)] at g4
          exact r.inj j l m1 m2 q' n h1' h2' g3 g4
    · rcases set_get h with ⟨rfl, hi, e⟩ | ⟨hn, h⟩
      · cases e
      · rw [List.getElem?_set_ne (Ne.symm hn)]
        exact r.w j c h
theorem Rel.upd (r : Rel ρ an b M0 Δ Δr M) {i : Nat} {q : Addr} {m m' : MO} (h : Δ[i]? = some (.o m)) (hq : Δr[i]? = some (some (.cell q))) (hI : ∀ C fs ds, m' = .ins C fs ds → ∃ C' fs' ds', m = .ins C' fs' ds') : Rel ρ an b M0 (Δ.set i (.o m')) Δr (mup M q (rnM ρ m')) := by
  have hi : i < Δ.length := (List.getElem?_eq_some_iff.mp h).1
  refine ⟨by rw [List.length_set]; exact r.len, fun j c g => ?_, fun j m2 g => ?_, fun j l m1 m2 q' n g1 g2 g3 g4 => ?_, fun j c g => ?_⟩
  · rcases set_get g with ⟨rfl, _, e⟩ | ⟨hn, g⟩
    · cases e
    · exact r.v j c g
  · rcases set_get g with ⟨rfl, _, e⟩ | ⟨hn, g⟩
    · cases e
      obtain ⟨q2, e1, e2, e3, e4, e5⟩ := r.o j m h
      rw [hq] at e1
      cases e1
      exact ⟨q, hq, mup_same, e3, e4, fun C fs ds e => by
        obtain ⟨C', fs', ds', z⟩ := hI C fs ds e
        exact e5 C' fs' ds' z⟩
    · obtain ⟨q2, e1, e2, e3, e4, e5⟩ := r.o j m2 g
      have z : q2 ≠ q := fun z => by
        subst z
        exact r.inj i j m m2 q2 (Ne.symm hn) h g hq e1
      exact ⟨q2, e1, by rw [mup_ne z]; exact e2, e3, e4, e5⟩
  · have w : ∀ {j : Nat} {m1 : MO}, (Δ.set i (.o m'))[j]? = some (.o m1) → ∃ m2, Δ[j]? = some (.o m2) := fun {j m1} g => by
      rcases set_get g with ⟨rfl, _, e⟩ | ⟨hn, g⟩
      · exact ⟨m, h⟩
      · exact ⟨m1, g⟩
    obtain ⟨n1, w1⟩ := w g1
    obtain ⟨n2, w2⟩ := w g2
    exact r.inj j l n1 n2 q' n w1 w2 g3 g4
  · rcases set_get g with ⟨rfl, _, e⟩ | ⟨hn, g⟩
    · cases e
    · exact r.w j c g
end
section
variable {γ : Nat → Addr} {b : Bool} {u : Addr × Addr} {M0 M M' : Store} {Δ : List Sl} {Δr : DS} {n n' : Nat}
theorem SI.put (S : SI γ b u M0 Δ Δr M n) (A : Aft b u M M' n') {sl : Sl} {dr : D} (h : SlIs (rho γ u) b M0 M M' sl dr) (i : Nat) : SI γ b u M0 (Δ.set i sl) (Δr.set i (some dr)) M' n' := ⟨S.rel.put A.keep h i, A.urn, S.k0.trans A.keep⟩
theorem SI.upd (S : SI γ b u M0 Δ Δr M n) {i : Nat} {q : Addr} {m m' : MO} (h : Δ[i]? = some (.o m)) (hq : Δr[i]? = some (some (.cell q))) (hI : ∀ C fs ds, m' = .ins C fs ds → ∃ C' fs' ds', m = .ins C' fs' ds' := by intro _ _ _ z; cases z) : SI γ b u M0 (Δ.set i (.o m')) Δr (mup M q (rnM (rho γ u) m')) n := by
  obtain ⟨q2, e1, e2, e3, e4, _⟩ := S.rel.o i m h
  rw [hq] at e1
  cases e1
  refine ⟨S.rel.upd h hq hI, fun hb => (S.urn hb).mup (e4 hb), fun r m1 hr e => ?_⟩
  have z : r ≠ q := fun z => by rw [z, e3] at e; cases e
  rw [mup_ne z]
  exact S.k0 r m1 hr e
theorem SI.own (S : SI γ b u M0 Δ Δr M n) {i : Nat} {m : MO} (h : Δ[i]? = some (.o m)) : ∃ q, Δr[i]? = some (some (.cell q)) ∧ M q = some (rnM (rho γ u) m) := by
  obtain ⟨q, e1, e2, _⟩ := S.rel.o i m h
  exact ⟨q, e1, e2⟩
end
/-! ### a value on its way to a slot -/
structure IO (γ : Nat → Addr) (X : Cx) (e : Expr) (s : List Sl → Pg Sl) : Prop where
  go : ∀ b u M0 Δ Δr M n (k : DK), SI γ b u M0 Δ Δr M n → wpB b n (s Δ) (fun sl n' => ∀ M' dr, Aft b u M M' n' → SlIs (rho γ u) b M0 M M' sl dr → k dr M') → EvD X e Δr M k
def oV (s : SE) : List Sl → Pg Sl := fun Δ => (s Δ).bind fun d => .ret (.v d)
def oL (s : SA) : List Sl → Pg Sl := fun Δ => (s Δ).bind fun ds => .ret (.o (.lst ds))
section
variable {γ : Nat → Addr} {X : Cx} {a c e e2 tg : Expr} {es rest : List Expr} {pos p apos : Pos} {x : Str} {s t : SE}
theorem IE.io (h : IE γ X e s) : IO γ X e (oV s) := .mk fun b u M0 Δ Δr M n k S w => h.go b u M0 Δ Δr M n k S ((wpB_bind.1 w).mono fun d n1 q M1 A1 => q M1 _ A1 rfl)
theorem IL.io {s : SA} (h : IL γ X e s) : IO γ X e (oL s) := .mk fun b u M0 Δ Δr M n k S w => EvL.cell (h.go b u M0 Δ Δr M n _ S ((wpB_bind.1 w).mono fun ds n1 q M1 A1 r hr => by
  have U := A1.urn
  obtain ⟨h0, hu⟩ := (S.k0.trans A1.keep).none U hr
  obtain ⟨hM, _⟩ := A1.keep.none U hr
  refine q _ _ ⟨fun r' m hr' e => ?_, fun hb => (U hb).mup (hu hb)⟩ ⟨r, rfl, hM, mup_same, h0, hu, fun _ _ _ z => by cases z⟩
  have z : r' ≠ r := fun z => by rw [z, hM] at e; cases e
  rw [mup_ne z]
  exact A1.keep r' m hr' e))
/-! ### expressions that change what is owned -/
abbrev SX := List Sl → Pg (D × List Sl)
structure IX (γ : Nat → Addr) (X : Cx) (e : Expr) (s : SX) : Prop where
  go : ∀ b u M0 Δ Δr M n (k : DK), SI γ b u M0 Δ Δr M n → wpB b n (s Δ) (fun r n' => ∀ M', SI γ b u M0 r.2 Δr M' n' → k (rn (rho γ u) r.1) M') → EvD X e Δr M k
def xE (s : SE) : SX := fun Δ => (s Δ).bind fun d => .ret (d, Δ)
theorem IE.ix (h : IE γ X e s) : IX γ X e (xE s) := .mk fun b u M0 Δ Δr M n k S w => h.go b u M0 Δ Δr M n k S ((wpB_bind.1 w).mono fun d n1 q M1 A1 => q M1 (S.aft A1))
def ownL (Δ : List Sl) (i : Nat) : Option (List D) := match Δ[i]? with
  | some (.o (.lst ds)) => some ds
  | _ => none
theorem ownL_is {Δ : List Sl} {i : Nat} {ds : List D} (h : ownL Δ i = some ds) : Δ[i]? = some (.o (.lst ds)) := by
  unfold ownL at h
  split at h
  · rename_i q
    cases h
    exact q
  · cases h
def xApp (i : Nat) (s : SX) : SX := fun Δ => (ofO (ownL Δ i)).bind fun _ => (s Δ).bind fun r => (ofO (ownL r.2 i)).bind fun ds => if ds.length < lim then .ret (.non, r.2.set i (.o (.lst (ds ++ [r.1])))) else .fail
theorem x_app {i : Nat} {s : SX} {px : Pos} (hN : X.N[i]? = some x) (hv : Vis X.env.scope x) (hd : (x == ("__debug__" : Str)) = false) (hcd : (x == ("__classdict__" : Str)) = false) (h : IX γ X e s)
    (hbase : attributeBase (.Name x px) "append" X.env (eval (.Name x px) X.env) = eval (.Name x px) X.env := by rfl) (hfew : FewOk X pos [e] := by rfl) (hline : (apos.endLine == pos.line) = true := by rfl) (hs : starEach [e] X.env = [(false, eval e X.env)] := by rfl) :
    IX γ X (.Call (.Attribute (.Name x px) "append" apos) [e] [] pos) (xApp i s) := .mk fun b u M0 Δ Δr M n k S w => by
  obtain ⟨ds0, h0, w1⟩ := wpB_ofO (wpB_bind.1 w)
  obtain ⟨q, hq, hM⟩ := S.own (ownL_is h0)
  refine ev_append (ev_var hN hv hd hcd hq ⟨q, _, rfl, hM, h.go b u M0 Δ Δr M n _ S ((wpB_bind.1 w1).mono fun r n1 w2 M1 S1 => ?_)⟩) hbase hfew hline hs
  obtain ⟨ds, h1, w3⟩ := wpB_ofO (wpB_bind.1 w2)
  split at w3
  · rename_i hl
    obtain ⟨q', hq', hM'⟩ := S1.own (ownL_is h1)
    rw [hq] at hq'
    cases hq'
    refine ⟨_, hM', by rw [lim_eq, rnL_len]; exact hl, ?_⟩
    have S2 := S1.upd (m' := .lst (ds ++ [r.1])) (ownL_is h1) hq
    have w4 := w3 _ S2
    rw [rn_non] at w4
    have e : rnM (rho γ u) (.lst (ds ++ [r.1])) = .lst (rnL (rho γ u) ds ++ [rn (rho γ u) r.1]) := by
      show MO.lst _ = _
      rw [rnL_app]
      unfold rnL
      unfold rnL
      rfl
    rw [e] at w4
    exact w4
  · exact w3.elim
def xPop (i : Nat) (s : SE) : SX := fun Δ => (ofO (ownL Δ i)).bind fun ds => (s Δ).bind fun y => (ofO (intOf y)).bind fun z => if inR z = true then (ofO (seqIndex? z ds.length)).bind fun j => (ofO ds[j]?).bind fun r => .ret (r, Δ.set i (.o (.lst (ds.eraseIdx j)))) else .fail
theorem rnL_erase {ρ : Nat → Addr} : ∀ (ds : List D) (j : Nat), rnL ρ (ds.eraseIdx j) = (rnL ρ ds).eraseIdx j
  | [], j => by unfold rnL; rfl
  | d :: ds, 0 => by
    rw [List.eraseIdx_cons_zero]
    conv => rhs; unfold rnL
    rfl
  | d :: ds, j + 1 => by
    rw [List.eraseIdx_cons_succ]
    unfold rnL
    rw [List.eraseIdx_cons_succ, rnL_erase ds j]
theorem x_pop {i : Nat} {px : Pos} (hN : X.N[i]? = some x) (hv : Vis X.env.scope x) (hd : (x == ("__debug__" : Str)) = false) (hcd : (x == ("__classdict__" : Str)) = false) (h : IE γ X e s)
    (hbase : attributeBase (.Name x px) "pop" X.env (eval (.Name x px) X.env) = eval (.Name x px) X.env := by rfl) (hfew : FewOk X pos [e] := by rfl) (hline : (apos.endLine == pos.line) = true := by rfl) (hs : starEach [e] X.env = [(false, eval e X.env)] := by rfl) :
    IX γ X (.Call (.Attribute (.Name x px) "pop" apos) [e] [] pos) (xPop i s) := .mk fun b u M0 Δ Δr M n k S w => by
  obtain ⟨ds, h0, w⟩ := wpB_ofO (wpB_bind.1 w)
  obtain ⟨q, hq, hM⟩ := S.own (ownL_is h0)
  refine ev_popAt (ev_var hN hv hd hcd hq ⟨q, _, rfl, hM, h.go b u M0 Δ Δr M n _ S ((wpB_bind.1 w).mono fun y n1 w1 M1 A1 => ?_)⟩) hbase hfew hline hs
  obtain ⟨z, h1, w2⟩ := wpB_ofO (wpB_bind.1 w1)
  split at w2
  · rename_i hz
    obtain ⟨j, h2, w3⟩ := wpB_ofO (wpB_bind.1 w2)
    obtain ⟨r, h3, w4⟩ := wpB_ofO (wpB_bind.1 w3)
    have S1 := S.aft A1
    obtain ⟨q', hq', hM'⟩ := S1.own (ownL_is h0)
    rw [hq] at hq'
    cases hq'
    rw [intOf_is h1, rn_int]
    have hb := inR_is hz
    refine ⟨z, _, j, rn (rho γ u) r, rfl, hM', ⟨by omega, by omega⟩, by rw [rnL_len]; exact h2, by rw [rnL_get, h3]; rfl, ?_⟩
    have w5 := w4 _ (S1.upd (m' := .lst (ds.eraseIdx j)) (ownL_is h0) hq)
    rw [← rnL_erase]
    exact w5
  · exact w2.elim
/-- x.pop() -/
theorem ev_pop0 {o : Expr} {Δ : DS} {M : Store} {k : DK} (h : EvD X o Δ M fun d M1 => ∃ q ds r, d = .cell q ∧ M1 q = some (.lst ds) ∧ ds[ds.length - 1]? = some r ∧ k r (mup M1 q (.lst ds.dropLast)))
    (hbase : attributeBase o "pop" X.env (eval o X.env) = eval o X.env := by rfl) (hline : (apos.endLine == pos.line) = true := by rfl) : EvD X (.Call (.Attribute o "pop" apos) [] [] pos) Δ M k := fun F H σ Q hS ok post => by
  refine sem_of (pe_bm0 PySem.F.plainAttrs_list PySem.F.slot_list_pop PySem.F.type_list_pop mt_pop pe_sem hbase hline) ?_
  refine h F H σ _ hS ok fun d M1 F1 H1 v ⟨q, ds, r, ed, hm, hr, hk⟩ st ok1 i => ?_
  subst ed
  obtain ⟨vs, hq, il⟩ := cell_of ok1 hm
  rw [is_cell.1 i]
  obtain ⟨w, hw, iw⟩ := il.get hr
  exact ⟨.inl ⟨rfl, _, SqL.of hq⟩, q, vs, w, rfl, rfl, hq, by rw [← il.length]; exact hw, (post.step st).cell ok1 hm il.dropLast hk iw⟩
theorem rnL_dl {ρ : Nat → Addr} (ds : List D) : rnL ρ ds.dropLast = (rnL ρ ds).dropLast := by rw [rnL_map, rnL_map, List.dropLast_eq_take, List.dropLast_eq_take, List.map_take, List.length_map]
def xPop0 (i : Nat) : SX := fun Δ => (ofO (ownL Δ i)).bind fun ds => (ofO ds[ds.length - 1]?).bind fun r => .ret (r, Δ.set i (.o (.lst ds.dropLast)))
theorem x_pop0 {i : Nat} {px : Pos} (hN : X.N[i]? = some x) (hv : Vis X.env.scope x) (hd : (x == ("__debug__" : Str)) = false) (hcd : (x == ("__classdict__" : Str)) = false)
    (hbase : attributeBase (.Name x px) "pop" X.env (eval (.Name x px) X.env) = eval (.Name x px) X.env := by rfl) (hline : (apos.endLine == pos.line) = true := by rfl) :
    IX γ X (.Call (.Attribute (.Name x px) "pop" apos) [] [] pos) (xPop0 i) := .mk fun b u M0 Δ Δr M n k S w => by
  obtain ⟨ds, h0, w⟩ := wpB_ofO (wpB_bind.1 w)
  obtain ⟨r, h1, w⟩ := wpB_ofO (wpB_bind.1 w)
  obtain ⟨q, hq, hM⟩ := S.own (ownL_is h0)
  refine ev_pop0 (ev_var hN hv hd hcd hq ⟨q, _, rn (rho γ u) r, rfl, hM, by rw [rnL_len, rnL_get, h1]; rfl, ?_⟩) hbase hline
  have w5 := w _ (S.upd (m' := .lst ds.dropLast) (ownL_is h0) hq)
  rw [← rnL_dl]
  exact w5
end
end DL
end
section
set_option Elab.async false
set_option linter.all false
set_option maxRecDepth 100000
namespace DL
open PySem L2 PyProof.Rows
inductive Out where
  | nx (Δ : List Sl) | rt (d : D) | bk (Δ : List Sl) | ct (Δ : List Sl)
abbrev ST := List Sl → Pg Out
def OutOk (γ : Nat → Addr) (b : Bool) (u : Addr × Addr) (M0 : Store) (ks : KS) : Out → Nat → Prop
  | .nx Δ, n => ∀ Δr M, SI γ b u M0 Δ Δr M n → ks.nx Δr M
  | .rt d, n => ∀ M, Aft b u M0 M n → ks.rt (rn (rho γ u) d) M
  | .bk Δ, n => ∀ Δr M, SI γ b u M0 Δ Δr M n → ks.bk Δr M
  | .ct Δ, n => ∀ Δr M, SI γ b u M0 Δ Δr M n → ks.ct Δr M
structure IS (γ : Nat → Addr) (X : Cx) (st : Stmt) (t : ST) : Prop where
  go : ∀ b u M0 Δ Δr M n (ks : KS), SI γ b u M0 Δ Δr M n → wpB b n (t Δ) (OutOk γ b u M0 ks) → StD X st Δr M ks
structure ISs (γ : Nat → Addr) (X : Cx) (st : List Stmt) (t : ST) : Prop where
  go : ∀ b u M0 Δ Δr M n (ks : KS), SI γ b u M0 Δ Δr M n → wpB b n (t Δ) (OutOk γ b u M0 ks) → SsD X st Δr M ks
section
variable {γ : Nat → Addr} {X : Cx} {a c e e2 tg : Expr} {es rest : List Expr} {pos p apos : Pos} {x : Str} {s t : SE} {st : Stmt} {sts body A B : List Stmt}
def tNil : ST := fun Δ => .ret (.nx Δ)
def tSeq (t r : ST) : ST := fun Δ => (t Δ).bind fun o => match o with
  | .nx Δ1 => r Δ1
  | o => .ret o
theorem b_nil : ISs γ X [] tNil := .mk fun b u M0 Δ Δr M n ks S w => ss_nil (w Δr M S)
theorem b_cons {t r : ST} (h : IS γ X st t) (h2 : ISs γ X sts r) : ISs γ X (st :: sts) (tSeq t r) := .mk fun b u M0 Δ Δr M n ks S w => by
  refine ss_cons (h.go b u M0 Δ Δr M n _ S ((wpB_bind.1 w).mono fun o n1 w1 => ?_))
  cases o with
  | nx Δ1 => exact fun Δr1 M1 S1 => h2.go b u M0 Δ1 Δr1 M1 n1 ks S1 w1
  | rt d => exact w1
  | bk Δ1 => exact w1
  | ct Δ1 => exact w1
theorem b_one {t : ST} (h : IS γ X st t) : ISs γ X [st] t := .mk fun b u M0 Δ Δr M n ks S w => ss_one (h.go b u M0 Δ Δr M n ks S w)
def tX (s : SX) : ST := fun Δ => (s Δ).bind fun r => .ret (.nx r.2)
theorem r_expr {s : SX} (h : IX γ X e s) (hs : swapsWith e none pos.line X.env = pure false := by rfl) : IS γ X (.Expr e pos) (tX s) := .mk fun b u M0 Δ Δr M n ks S w => s_expr (h.go b u M0 Δ Δr M n _ S ((wpB_bind.1 w).mono fun r n1 w1 M1 S1 => w1 Δr M1 S1)) hs
def tRet (s : SE) : ST := fun Δ => (s Δ).bind fun d => .ret (.rt d)
theorem Aft.of0 {b : Bool} {u : Addr × Addr} {M0 M : Store} {Δ : List Sl} {Δr : DS} {n : Nat} (S : SI γ b u M0 Δ Δr M n) : Aft b u M0 M n := ⟨S.k0, S.urn⟩
theorem r_ret (h : IE γ X e s) : IS γ X (.Return (some e) pos) (tRet s) := .mk fun b u M0 Δ Δr M n ks S w => s_ret (h.go b u M0 Δ Δr M n _ S ((wpB_bind.1 w).mono fun d n1 w1 M1 A1 => w1 M1 (Aft.of0 (S.aft A1))))
def tIf (t : SB) (r q : ST) : ST := fun Δ => (t Δ).bind fun c => if c = true then r Δ else q Δ
theorem r_if {tb : SB} {r q : ST} (h : IT γ X e tb) (hA : ISs γ X A r) (hB : ISs γ X B q) : IS γ X (.If e A B pos) (tIf tb r q) := .mk fun b u M0 Δ Δr M n ks S w => s_if (h.go b u M0 Δ Δr M n _ S ((wpB_bind.1 w).mono fun c n1 w1 M1 A1 => by
  cases c with
  | true => exact hA.go b u M0 Δ Δr M1 n1 ks (S.aft A1) w1
  | false => exact hB.go b u M0 Δ Δr M1 n1 ks (S.aft A1) w1))
def tSet (i : Nat) (s : List Sl → Pg Sl) : ST := fun Δ => (s Δ).bind fun sl => .ret (.nx (Δ.set i sl))
theorem r_set {i : Nat} {s : List Sl → Pg Sl} {pos' : Pos} (hN : X.N.Nodup) (hi : X.N[i]? = some x) (hx : Loc X.env.scope x) (hf : X.fn x = true ∨ X.env.scope.names.lookup x = some .local) (h : IO γ X e s)
    (hs : swapsWith e (some (.Name x pos')) pos.line X.env = pure false := by rfl) : IS γ X (.Assign [.Name x pos'] e pos) (tSet i s) := .mk fun b u M0 Δ Δr M n ks S w => s_set hN hi hx hf (h.go b u M0 Δ Δr M n _ S ((wpB_bind.1 w).mono fun sl n1 w1 M1 dr A1 V => w1 _ M1 (S.put A1 V i))) hs
def tSetX (i : Nat) (s : SX) : ST := fun Δ => (s Δ).bind fun r => .ret (.nx (r.2.set i (.v r.1)))
theorem r_setX {i : Nat} {s : SX} {pos' : Pos} (hN : X.N.Nodup) (hi : X.N[i]? = some x) (hx : Loc X.env.scope x) (hf : X.fn x = true ∨ X.env.scope.names.lookup x = some .local) (h : IX γ X e s)
    (hs : swapsWith e (some (.Name x pos')) pos.line X.env = pure false := by rfl) : IS γ X (.Assign [.Name x pos'] e pos) (tSetX i s) := .mk fun b u M0 Δ Δr M n ks S w => s_set hN hi hx hf (h.go b u M0 Δ Δr M n _ S ((wpB_bind.1 w).mono fun r n1 w1 M1 S1 => w1 _ M1 ⟨S1.rel.setV i r.1, S1.urn, S1.k0⟩)) hs
/-- x = [.. for ..]: frozen, or owned -/
theorem r_setLc {i : Nat} {y : Str} {py spos : Pos} {scope : Scope} {own : List (Str × Nat)} {elt iter : Expr} {ifs : List Expr} {sl : List Nat} {tgt : Tg} {it : SA} {tb : SB} {se : SE} (hc : X.calm = true) (hN : X.N.Nodup) (hy : X.N[i]? = some y) (hyl : X.env.scope.names.lookup y = some .local)
    (hsw : swapsWith (.ListComp elt [⟨tg, iter, ifs, 0⟩] scope pos) (some (.Name y py)) spos.line X.env = pure true) (ok : BlkOk X.N X.env.scope scope own) (hl : ifs.length ≤ 1) (hI : II γ X tg iter it) (hsl : ∀ j ∈ sl, j ∈ own.map (·.2))
    (hG : ∀ s H C cl fp, GT (Blk X scope s H C cl fp) tg tgt sl) (hT : ∀ s H C cl fp, ITs γ (Blk X scope s H C cl fp) ifs tb) (hE : ∀ s H C cl fp, IE γ (Blk X scope s H C cl fp) elt se)
    (hs : ∀ x, foldedSetIterable iter X.env x = pure x := by intro _; rfl) : IS γ X (.Assign [.Name y py] (.ListComp elt [⟨tg, iter, ifs, 0⟩] scope pos) spos) (tSet i (oV (cL (aLc tgt (own.map (·.2)) it tb se)))) := .mk fun b u M0 Δ Δr M n ks S w => by
  refine s_setLc hc hN hy hyl hsw ok hl (lc_rd hI hsl hG hT hE S ((wpB_bind.1 (wpB_bind.1 (wpB_bind.1 w))).mono fun ds n1 w1 M1 A1 => ?_)) hs
  have w2 := w1 (Δr.set i (some (rn (rho γ u) (.lst ds)))) M1 (S.put A1 (sl := .v (.lst ds)) rfl i)
  rw [rn_lst] at w2
  exact w2
theorem r_setLcO {i : Nat} {y : Str} {py spos : Pos} {scope : Scope} {own : List (Str × Nat)} {elt iter : Expr} {ifs : List Expr} {sl : List Nat} {tgt : Tg} {it : SA} {tb : SB} {se : SE} (hc : X.calm = true) (hN : X.N.Nodup) (hy : X.N[i]? = some y) (hyl : X.env.scope.names.lookup y = some .local)
    (hsw : swapsWith (.ListComp elt [⟨tg, iter, ifs, 0⟩] scope pos) (some (.Name y py)) spos.line X.env = pure true) (ok : BlkOk X.N X.env.scope scope own) (hl : ifs.length ≤ 1) (hI : II γ X tg iter it) (hsl : ∀ j ∈ sl, j ∈ own.map (·.2))
    (hG : ∀ s H C cl fp, GT (Blk X scope s H C cl fp) tg tgt sl) (hT : ∀ s H C cl fp, ITs γ (Blk X scope s H C cl fp) ifs tb) (hE : ∀ s H C cl fp, IE γ (Blk X scope s H C cl fp) elt se)
    (hs : ∀ x, foldedSetIterable iter X.env x = pure x := by intro _; rfl) : IS γ X (.Assign [.Name y py] (.ListComp elt [⟨tg, iter, ifs, 0⟩] scope pos) spos) (tSet i (oL (aLc tgt (own.map (·.2)) it tb se))) := .mk fun b u M0 Δ Δr M n ks S w => by
  refine s_setLcC hc hN hy hyl hsw ok hl (lc_rd hI hsl hG hT hE S ((wpB_bind.1 (wpB_bind.1 w)).mono fun ds n1 w1 M1 A1 r hr => ?_)) hs
  have U := A1.urn
  obtain ⟨h0, hu⟩ := (S.k0.trans A1.keep).none U hr
  obtain ⟨hM, _⟩ := A1.keep.none U hr
  refine w1 _ _ (S.put (sl := .o (.lst ds)) ⟨fun r' m hr' e => ?_, fun hb => (U hb).mup (hu hb)⟩ ⟨r, rfl, hM, mup_same, h0, hu, fun _ _ _ z => by cases z⟩ i)
  have z : r' ≠ r := fun z => by rw [z, hM] at e; cases e
  rw [mup_ne z]
  exact A1.keep r' m hr' e
def tPar (i j : Nat) (s t : List Sl → Pg Sl) : ST := fun Δ => (s Δ).bind fun d => (t Δ).bind fun c => .ret (.nx ((Δ.set i d).set j c))
theorem r_par {i j : Nat} {y : Str} {s t : List Sl → Pg Sl} {px py pt : Pos} {kt k2 pt2} (hc : X.calm = true) (hN : X.N.Nodup) (hi : X.N[i]? = some x) (hj : X.N[j]? = some y) (hij : i ≠ j) (hx : X.env.scope.names.lookup x = some .local) (hy : X.env.scope.names.lookup y = some .local)
    (hw : swappedStores [.Tuple [.Name x px, .Name y py] kt pt] (.Tuple [a, c] k2 pt2) X.env = pure (some [x, y])) (ha : IO γ X a s) (hcc : IO γ X c t) (hs : swapsWithSole [.Tuple [.Name x px, .Name y py] kt pt] (.Tuple [a, c] k2 pt2) pos.line X.env = pure false := by rfl)
    (h1 : starEach [a, c] X.env = (false, eval a X.env) :: starEach [c] X.env := by rfl) (h2 : starEach [c] X.env = [(false, eval c X.env)] := by rfl) :
    IS γ X (.Assign [.Tuple [.Name x px, .Name y py] kt pt] (.Tuple [a, c] k2 pt2) pos) (tPar i j s t) := .mk fun b u M0 Δ Δr M n ks S w =>
  s_par hc hN hi hj hij hx hy hw (ha.go b u M0 Δ Δr M n _ S ((wpB_bind.1 w).mono fun d n1 w1 M1 dr A1 V1 => hcc.go b u M0 Δ Δr M1 n1 _ (S.aft A1) ((wpB_bind.1 w1).mono fun d2 n2 w2 M2 dr2 A2 V2 => w2 _ M2 ((S.put A1 V1 i).put A2 V2 j)))) hs h1 h2
def tPar3 (i j l : Nat) (s t r : List Sl → Pg Sl) : ST := fun Δ => (s Δ).bind fun d => (t Δ).bind fun c => (r Δ).bind fun g => .ret (.nx (((Δ.set i d).set j c).set l g))
theorem r_par3 {i j l : Nat} {y z : Str} {g : Expr} {s t r : List Sl → Pg Sl} {px py pz pt : Pos} {kt k2 pt2} (hc : X.calm = true) (hN : X.N.Nodup) (hi : X.N[i]? = some x) (hj : X.N[j]? = some y) (hl : X.N[l]? = some z) (hij : i ≠ j) (hil : i ≠ l) (hjl : j ≠ l) (hx : X.env.scope.names.lookup x = some .local) (hy : X.env.scope.names.lookup y = some .local) (hz : X.env.scope.names.lookup z = some .local)
    (hw : swappedStores [.Tuple [.Name x px, .Name y py, .Name z pz] kt pt] (.Tuple [a, c, g] k2 pt2) X.env = pure (some [x, y, z])) (ha : IO γ X a s) (hcc : IO γ X c t) (hg : IO γ X g r) (hs : swapsWithSole [.Tuple [.Name x px, .Name y py, .Name z pz] kt pt] (.Tuple [a, c, g] k2 pt2) pos.line X.env = pure false := by rfl)
    (h1 : starEach [a, c, g] X.env = (false, eval a X.env) :: starEach [c, g] X.env := by rfl) (h2 : starEach [c, g] X.env = (false, eval c X.env) :: starEach [g] X.env := by rfl) (h3 : starEach [g] X.env = [(false, eval g X.env)] := by rfl) :
    IS γ X (.Assign [.Tuple [.Name x px, .Name y py, .Name z pz] kt pt] (.Tuple [a, c, g] k2 pt2) pos) (tPar3 i j l s t r) := .mk fun b u M0 Δ Δr M n ks S w =>
  s_par3 hc hN hi hj hl hij hil hjl hx hy hz hw (ha.go b u M0 Δ Δr M n _ S ((wpB_bind.1 w).mono fun d n1 w1 M1 dr A1 V1 => hcc.go b u M0 Δ Δr M1 n1 _ (S.aft A1) ((wpB_bind.1 w1).mono fun d2 n2 w2 M2 dr2 A2 V2 => hg.go b u M0 Δ Δr M2 n2 _ ((S.aft A1).aft A2) ((wpB_bind.1 w2).mono fun d3 n3 w3 M3 dr3 A3 V3 => w3 _ M3 (((S.put A1 V1 i).put A2 V2 j).put A3 V3 l))))) hs h1 h2 h3
/-- target = value -/
def tAsg (t : Tg) (s : SX) : ST := fun Δ => (s Δ).bind fun r => (ofO (tgS t r.1 r.2)).bind fun Δ1 => .ret (.nx Δ1)
theorem r_asg {tgt : Tg} {sl : List Nat} {s : SX} (h : IX γ X e s) (hG : GT X tg tgt sl) (hs : swapsWithSole [tg] e pos.line X.env = pure false := by rfl) (hw : swappedStores [tg] e X.env = pure none := by rfl)
    (h1 : (assignEach [tg] X.env).map (·.2) = [assign tg X.env] := by rfl) : IS γ X (.Assign [tg] e pos) (tAsg tgt s) := .mk fun b u M0 Δ Δr M n ks S w => s_asg (h.go b u M0 Δ Δr M n _ S ((wpB_bind.1 w).mono fun r n1 w1 M1 S1 => by
  obtain ⟨Δ1, q1, w2⟩ := wpB_ofO (wpB_bind.1 w1)
  obtain ⟨f1, r1⟩ := tg_rel S1.rel q1
  exact ⟨_, sl, hG _ _ f1, w2 _ M1 ⟨r1, S1.urn, S1.k0⟩⟩)) hs hw h1
/-- x[i] = e of an owned list -/
def tPut (i : Nat) (s t : SE) : ST := fun Δ => (s Δ).bind fun y => (ofO (ownL Δ i)).bind fun ds => (t Δ).bind fun z => (ofO (intOf z)).bind fun n => (ofO (ixN ds.length n)).bind fun j => .ret (.nx (Δ.set i (.o (.lst (ds.set j y)))))
theorem rnL_set {ρ : Nat → Addr} (ds : List D) (j : Nat) (d : D) : rnL ρ (ds.set j d) = (rnL ρ ds).set j (rn ρ d) := by rw [rnL_map, rnL_map, List.map_set]
theorem r_put {i : Nat} {spos px : Pos} (hN : X.N[i]? = some x) (hv : Vis X.env.scope x) (hd : (x == ("__debug__" : Str)) = false) (hcd : (x == ("__classdict__" : Str)) = false) (h : IE γ X e s) (h2 : IE γ X c t)
    (hs : swapsWithSole [.Subscript (.Name x px) c spos] e pos.line X.env = pure false := by rfl) (hw : swappedStores [.Subscript (.Name x px) c spos] e X.env = pure none := by rfl) (h1 : (assignEach [.Subscript (.Name x px) c spos] X.env).map (·.2) = [assign (.Subscript (.Name x px) c spos) X.env] := by rfl)
    (ha : ∀ v, assign (.Subscript (.Name x px) c spos) X.env v = (do
      let ov ← holding [v] (eval (.Name x px) X.env)
      let iv ← holding [v, ov] (eval c X.env)
      standAt spos
      holding [v, ov, iv] (setItem ov iv v)
      release [v, ov, iv] []) := by intro _; rfl) : IS γ X (.Assign [.Subscript (.Name x px) c spos] e pos) (tPut i s t) := .mk fun b u M0 Δ Δr M n ks S w => by
  refine s_put (h.go b u M0 Δ Δr M n _ S ((wpB_bind.1 w).mono fun y n1 w1 M1 A1 => ?_)) hs hw h1 ha
  obtain ⟨ds, h0, w2⟩ := wpB_ofO (wpB_bind.1 w1)
  obtain ⟨q, hq, hM⟩ := S.own (ownL_is h0)
  refine ev_var hN hv hd hcd hq (h2.go b u M0 Δ Δr M1 n1 _ (S.aft A1) ((wpB_bind.1 w2).mono fun z n2 w3 M2 A2 => ?_))
  obtain ⟨m, h3, w4⟩ := wpB_ofO (wpB_bind.1 w3)
  obtain ⟨j, h4, w5⟩ := wpB_ofO (wpB_bind.1 w4)
  have S2 := (S.aft A1).aft A2
  obtain ⟨q', hq', hM'⟩ := S2.own (ownL_is h0)
  rw [hq] at hq'
  cases hq'
  rw [intOf_is h3, rn_int]
  refine ⟨q, _, m, j, rfl, rfl, hM', by rw [rnL_len]; exact h4, ?_⟩
  rw [← rnL_set]
  exact w5 Δr _ (S2.upd (m' := .lst (ds.set j y)) (ownL_is h0) hq)
/-! ### for -/
def forP (tg : Tg) (body : ST) : List D → List Sl → Pg Out
  | [], Δ => .ret (.nx Δ)
  | d :: ds, Δ => (ofO (tgS tg d Δ)).bind fun Δ1 => (body Δ1).bind fun o => match o with
    | .nx Δ2 => forP tg body ds Δ2
    | .ct Δ2 => forP tg body ds Δ2
    | .bk Δ2 => .ret (.nx Δ2)
    | .rt d => .ret (.rt d)
def tFor (tg : Tg) (it : SA) (body : ST) : ST := fun Δ => (it Δ).bind fun ds => forP tg body ds Δ
theorem r_for {iter : Expr} {tgt : Tg} {it : SA} {tb : ST} {sl : List Nat} (hp : PassesOwn (model X.prog X.w) X.A X.env X.xe) (hc : X.calm = true) (hI : II γ X tg iter it) (hG : GT X tg tgt sl) (hB : ISs γ X body tb)
    (hs : ∀ x, foldedSetIterable iter X.env x = pure x := by intro _; rfl) : IS γ X (.For tg iter body [] pos) (tFor tgt it tb) := .mk fun b u M0 Δ Δr M n ks S w => by
  refine s_for hp hc (hI.go b u M0 Δ Δr M n _ S ((wpB_bind.1 w).mono fun ds n1 w1 M1 A1 => ?_)) hs
  refine ⟨fun i Δ' M' => ∃ Δa n', SI γ b u M0 Δa Δ' M' n' ∧ wpB b n' (forP tgt tb (ds.drop i) Δa) (OutOk γ b u M0 ks), ⟨Δ, n1, S.aft A1, by rw [List.drop_zero]; exact w1⟩, ?_, ?_⟩
  · rintro i d Δ' M' hd ⟨Δa, n', S', w2⟩
    rw [rnL_get] at hd
    obtain ⟨d0, hd0, rfl⟩ := Option.map_eq_some_iff.mp hd
    have hi := (List.getElem?_eq_some_iff.mp hd0).1
    have hdr : ds.drop i = d0 :: ds.drop (i + 1) := by
      rw [List.drop_eq_getElem_cons hi]
      congr 1
      exact (List.getElem?_eq_some_iff.mp hd0).2
    rw [hdr] at w2
    obtain ⟨Δ1, q1, w3⟩ := wpB_ofO (wpB_bind.1 w2)
    obtain ⟨f1, r1⟩ := tg_rel S'.rel q1
    refine ⟨_, sl, hG _ _ f1, hB.go b u M0 Δ1 _ M' n' _ ⟨r1, S'.urn, S'.k0⟩ ((wpB_bind.1 w3).mono fun o n2 w4 => ?_)⟩
    cases o with
    | nx Δ2 => exact fun Δr2 M2 S2 => ⟨Δ2, n2, S2, w4⟩
    | ct Δ2 => exact fun Δr2 M2 S2 => ⟨Δ2, n2, S2, w4⟩
    | bk Δ2 => exact w4
    | rt d => exact w4
  · rintro Δ' M' ⟨Δa, n', S', w2⟩
    rw [rnL_len, List.drop_length] at w2
    exact w2 Δ' M' S'
/-! ### while -/
theorem s_while {c : Expr} {Δ : DS} {M : Store} {ks : KS} (hp : PassesOwn (model X.prog X.w) X.A X.env X.xe) (I : Nat → DS → Store → Prop) {m : Nat} (h0 : I m Δ M)
    (hs : ∀ m Δ M, I m Δ M → TeD X c Δ M fun z M1 => if z = true then SsD X body Δ M1 { nx := fun Δ' M' => ∃ m', m' < m ∧ I m' Δ' M', ct := fun Δ' M' => ∃ m', m' < m ∧ I m' Δ' M', bk := ks.nx, rt := ks.rt } else ks.nx Δ M1) : StD X (.While c body [] pos) Δ M ks := fun F H σ Q hS ok post => by
  refine semS_of (ps_while hp pt_sem pss_sem) ?_
  refine ⟨fun m σ' H' => ∃ Δ' M' F', Stp F M H F' M' H' ∧ Ok X.K F' M' H' ∧ IsS X.K F' Δ' σ' ∧ I m Δ' M', ⟨m, Δ, M, F, Stp.refl, ok, hS, h0⟩, ?_⟩
  rintro m σ' H' ⟨Δ', M', F', st', ok', hS', hI⟩
  refine hs m Δ' M' hI F' H' σ' _ hS' ok' fun z M1 F1 H1 hz st1 ok1 => ?_
  have s1 := st'.trans st1
  cases z with
  | true =>
    rw [if_pos rfl] at hz ⊢
    refine ⟨fun σ2 H2 => ∃ Δ2 M2 F2, Stp F M H F2 M2 H2 ∧ Ok X.K F2 M2 H2 ∧ IsS X.K F2 Δ2 σ2 ∧ ∃ m', m' < m ∧ I m' Δ2 M2, fun σ2 H2 ⟨Δ2, M2, F2, a1, a2, a3, m', hm, a4⟩ => ⟨m', hm, Δ2, M2, F2, a1, a2, a3, a4⟩, ?_⟩
    refine hz F1 H1 σ' _ (hS'.mono st1.ext) ok1 ⟨fun Δ4 M4 F4 H4 σ4 q s4 ok4 hS4 => ⟨Δ4, M4, F4, s1.trans s4, ok4, hS4, q⟩, ?_, ?_, fun Δ4 M4 F4 H4 σ4 q s4 ok4 hS4 => ⟨Δ4, M4, F4, s1.trans s4, ok4, hS4, q⟩⟩
    · exact post.rt.step s1
    · exact fun Δ4 M4 F4 H4 σ4 q s4 ok4 hS4 => post.nx Δ4 M4 F4 H4 σ4 q (s1.trans s4) ok4 hS4
  | false =>
    rw [if_neg Bool.false_ne_true] at hz ⊢
    exact post.nx Δ' M1 F1 H1 σ' hz s1 ok1 (hS'.mono st1.ext)
def whP (t : SB) (body : ST) : Nat → List Sl → Pg Out
  | 0, _ => .fail
  | m + 1, Δ => (t Δ).bind fun c => if c = true then (body Δ).bind fun o => match o with
    | .nx Δ2 => whP t body m Δ2
    | .ct Δ2 => whP t body m Δ2
    | .bk Δ2 => .ret (.nx Δ2)
    | .rt d => .ret (.rt d) else .ret (.nx Δ)
def tWh (f : List Sl → Nat) (t : SB) (body : ST) : ST := fun Δ => whP t body (f Δ) Δ
theorem r_while {f : List Sl → Nat} {tb : SB} {tbd : ST} (hp : PassesOwn (model X.prog X.w) X.A X.env X.xe) (hT : IT γ X c tb) (hB : ISs γ X body tbd) : IS γ X (.While c body [] pos) (tWh f tb tbd) := .mk fun b u M0 Δ Δr M n ks S w => by
  refine s_while hp (fun m Δ' M' => ∃ Δa n', SI γ b u M0 Δa Δ' M' n' ∧ wpB b n' (whP tb tbd m Δa) (OutOk γ b u M0 ks)) ⟨Δ, n, S, w⟩ ?_
  rintro m Δ' M' ⟨Δa, n', S', w2⟩
  cases m with
  | zero => exact w2.elim
  | succ m =>
    refine hT.go b u M0 Δa Δ' M' n' _ S' ((wpB_bind.1 w2).mono fun z n1 w3 M1 A1 => ?_)
    cases z with
    | true =>
      rw [if_pos rfl] at w3 ⊢
      refine hB.go b u M0 Δa Δ' M1 n1 _ (S'.aft A1) ((wpB_bind.1 w3).mono fun o n2 w4 => ?_)
      cases o with
      | nx Δ2 => exact fun Δr2 M2 S2 => ⟨m, Nat.lt_succ_self m, Δ2, n2, S2, w4⟩
      | ct Δ2 => exact fun Δr2 M2 S2 => ⟨m, Nat.lt_succ_self m, Δ2, n2, S2, w4⟩
      | bk Δ2 => exact w4
      | rt d => exact w4
    | false =>
      rw [if_neg Bool.false_ne_true] at w3 ⊢
      exact w3 Δ' M1 (S'.aft A1)
end
/-! ### what is owned, let go -/
def frzO : MO → D
  | .lst ds => .lst ds | .ins C fs ds => .ins C fs ds | .dct ks ds => .dct ks ds
theorem frzO_rn {ρ : Nat → Addr} (m : MO) : rn ρ (frzO m) = frzO (rnM ρ m) := by
  cases m with
  | lst ds => exact rn_lst ds
  | ins C fs ds => exact rn_ins C fs ds
  | dct ks ds => exact rn_dct ks ds
section
variable {K : PySem.W.Frag} {F H : Hp} {M : Store}
theorem frz_any (ok : Ok K F M H) {q : Addr} {m : MO} (hm : M q = some m) (nd : ∀ ks ds, m ≠ .dct ks ds) : ∃ F', Ok K F' (mdel M q) H ∧ Stp F M H F' (mdel M q) H ∧ Is K F' (frzO m) (.ref q) := by
  obtain ⟨hF, o, hH, hr⟩ := ok.mem q _ hm
  refine ⟨upd F q o, ⟨fun x w e => ?_, fun x m e => ?_⟩, ⟨same_new hF, fun x w e => ?_, fun x w e _ => e, fun x m n => ?_, fun x n => n⟩, ?_⟩
  · by_cases z : x = q
    · subst z; rw [upd_same] at e; cases e; exact .inl hH
    · rw [upd_ne z] at e; exact ok.sub x w e
  · by_cases z : x = q
    · rw [z, mdel_same] at e; cases e
    · rw [mdel_ne z] at e
      obtain ⟨g1, w, g2, g3⟩ := ok.mem x m e
      exact ⟨by rw [upd_ne z]; exact g1, w, g2, g3.mono (same_new hF)⟩
  · by_cases z : x = q
    · subst z; exact .inr (.inr (by rw [hm]; simp))
    · rw [upd_ne z] at e; exact .inl e
  · by_cases z : x = q
    · rw [z, mdel_same]
    · rw [mdel_ne z]; exact m
  · cases m with
    | lst ds =>
      obtain ⟨vs, rfl, il⟩ := hr
      exact is_lst.2 ⟨q, vs, rfl, upd_same, il.mono (same_new hF)⟩
    | ins C fs ds =>
      obtain ⟨dx, vs, rfl, l, il⟩ := hr
      exact is_ins.2 ⟨q, dx, vs, rfl, upd_same, l, il.mono (same_new hF)⟩
    | dct ks ds => exact absurd rfl (nd ks ds)
/-- a dict that is let go is locked -/
theorem frz_dct (ok : Ok K F M H) {q : Addr} {ks : List Key} {ds : List D} (hm : M q = some (.dct ks ds)) : ∃ u, H q = some u ∧ Mut (some u) ∧ ∀ od, ∃ F', Ok K F' (mdel M q) (upd H q (.frz od u)) ∧ Stp F M H F' (mdel M q) (upd H q (.frz od u)) ∧ Is K F' (.dct ks ds) (.ref q) := by
  obtain ⟨hF, o, hH, vs, rfl, l, il⟩ := ok.mem q _ hm
  refine ⟨_, hH, trivial, fun od => ⟨upd F q (.frz od (.dK (ks.zip vs))), ⟨fun x w e => ?_, fun x m e => ?_⟩, ⟨same_new hF, fun x w e => ?_, fun x w e n => ?_, fun x m n => ?_, fun x n => ?_⟩, ?_⟩⟩
  · by_cases z : x = q
    · subst z; rw [upd_same] at e ⊢; exact .inl e
    · rw [upd_ne z] at e ⊢; exact ok.sub x w e
  · by_cases z : x = q
    · rw [z, mdel_same] at e; cases e
    · rw [mdel_ne z] at e
      obtain ⟨g1, w, g2, g3⟩ := ok.mem x m e
      exact ⟨by rw [upd_ne z]; exact g1, w, by rw [upd_ne z]; exact g2, g3.mono (same_new hF)⟩
  · by_cases z : x = q
    · subst z; exact .inr (.inr (by rw [hm]; simp))
    · rw [upd_ne z] at e; exact .inl e
  · by_cases z : x = q
    · rw [z, hm] at n; cases n
    · rw [upd_ne z]; exact e
  · by_cases z : x = q
    · rw [z, mdel_same]
    · rw [mdel_ne z]; exact m
  · by_cases z : x = q
    · rw [z, upd_same]; simp
    · rw [upd_ne z]; exact n
  · exact is_dct.2 ⟨q, vs, od, rfl, upd_same, l, il.mono (same_new hF)⟩
theorem mo_dct (m : MO) : (∀ ks ds, m ≠ .dct ks ds) ∨ ∃ ks ds, m = .dct ks ds := by
  cases m with
  | dct ks ds => exact .inr ⟨ks, ds, rfl⟩
  | _ => exact .inl fun _ _ e => by cases e
end
section
variable {X : Cx} {Δ : DS} {M : Store} {ks : KS} {k : DK} {sts : List Stmt} {e : Expr}
theorem ss_frz1 {i : Nat} {q : Addr} {m : MO} (hi : Δ[i]? = some (some (.cell q))) (hm : M q = some m) (h : SsD X sts (Δ.set i (some (frzO m))) (mdel M q) ks) : SsD X sts Δ M ks := fun F H σ Q hS ok post => by
  have fin : ∀ {F' : Hp} {H' : Hp}, Stp F M H F' (mdel M q) H' → Is X.K F' (frzO m) (.ref q) → IsS X.K F' (Δ.set i (some (frzO m))) σ := fun {F' H'} st iq => ⟨by rw [List.length_set]; exact hS.1, fun j d e => by
    rcases set_get e with ⟨rfl, _, e1⟩ | ⟨_, e1⟩
    · cases e1
      obtain ⟨v, h1, h2⟩ := hS.2 j _ hi
      rw [is_cell.1 h2] at h1
      exact ⟨_, h1, iq⟩
    · obtain ⟨v, h1, h2⟩ := hS.2 j d e1
      exact ⟨v, h1, h2.mono st.ext⟩⟩
  rcases mo_dct m with nd | ⟨ks, ds, rfl⟩
  · obtain ⟨F', ok', st, iq⟩ := frz_any ok hm nd
    exact h F' H σ Q (fin st iq) ok' (post.step st)
  · obtain ⟨u, hu, mu, g⟩ := frz_dct ok hm
    refine semSs_lock hu mu fun od => ?_
    obtain ⟨F', ok', st, iq⟩ := g od
    exact h F' _ σ Q (fin st iq) ok' (post.step st)
theorem ev_frz1 (h : EvD X e Δ M fun d M1 => ∃ q m, d = .cell q ∧ M1 q = some m ∧ k (frzO m) (mdel M1 q)) : EvD X e Δ M k := fun F H σ Q hS ok post =>
  sem_lockP (h F H σ _ hS ok fun d M1 F1 H1 v ⟨q, m, ed, hm, hk⟩ st ok1 i => by
    subst ed
    rw [is_cell.1 i]
    rcases mo_dct m with nd | ⟨ks, ds, rfl⟩
    · obtain ⟨F', ok', st', iq⟩ := frz_any ok1 hm nd
      exact .inl (post _ _ F' H1 _ hk (st.trans st') ok' iq)
    · obtain ⟨u, hu, mu, g⟩ := frz_dct ok1 hm
      refine .inr ⟨q, u, hu, mu, fun od => ?_⟩
      obtain ⟨F', ok', st', iq⟩ := g od
      exact post _ _ F' _ _ hk (st.trans st') ok' iq)
end
section
variable {γ : Nat → Addr} {X : Cx} {sts : List Stmt} {x : Str} {pos px : Pos} {b : Bool} {u : Addr × Addr} {M0 M : Store} {Δ : List Sl} {Δr : DS} {n : Nat}
theorem SI.frz (S : SI γ b u M0 Δ Δr M n) {i : Nat} {q : Addr} {m : MO} (h : Δ[i]? = some (.o m)) (hq : Δr[i]? = some (some (.cell q))) : SI γ b u M0 (Δ.set i (.v (frzO m))) (Δr.set i (some (frzO (rnM (rho γ u) m)))) (mdel M q) n := by
  obtain ⟨q2, e1, e2, e3, e4, _⟩ := S.rel.o i m h
  rw [hq] at e1
  cases e1
  refine ⟨⟨by rw [List.length_set, List.length_set]; exact S.rel.len, fun j c g => ?_, fun j m2 g => ?_, fun j l m1 m2 q' n' g1 g2 g3 g4 => ?_, fun j c g => ?_⟩, fun hb => (S.urn hb).mdel (e4 hb), fun r m1 hr e => ?_⟩
  · rcases set_get g with ⟨rfl, hi, e⟩ | ⟨hn, g⟩
    · cases e
      rw [List.getElem?_set_self (by rw [← S.rel.len]; exact hi), frzO_rn]
    · rw [List.getElem?_set_ne (Ne.symm hn)]
      exact S.rel.v j c g
  · rcases set_get g with ⟨rfl, hi, e⟩ | ⟨hn, g⟩
    · cases e
    · rw [List.getElem?_set_ne (Ne.symm hn)]
      obtain ⟨q3, f1, f2, f3, f4, f5⟩ := S.rel.o j m2 g
      have z : q3 ≠ q := fun z => by
        subst z
        exact S.rel.inj i j m m2 q3 (Ne.symm hn) h g hq f1
      exact ⟨q3, f1, by rw [mdel_ne z]; exact f2, f3, f4, f5⟩
  · rcases set_get g1 with ⟨rfl, hi, e⟩ | ⟨hn1, h1'⟩
    · cases e
    · rcases set_get g2 with ⟨rfl, hi, e⟩ | ⟨hn2, h2'⟩
      · cases e
      · rw [List.getElem?_set_ne (Ne.symm hn1)] at g3
        rw [List.getElem?_set_ne (Ne.symm hn2)] at g4
        exact S.rel.inj j l m1 m2 q' n' h1' h2' g3 g4
  · rcases set_get g with ⟨rfl, hi, e⟩ | ⟨hn, g⟩
    · cases e
    · rw [List.getElem?_set_ne (Ne.symm hn)]
      exact S.rel.w j c g
  · have z : r ≠ q := fun z => by rw [z, e3] at e; cases e
    rw [mdel_ne z]
    exact S.k0 r m1 hr e
def frzS (i : Nat) (Δ : List Sl) : List Sl := match Δ[i]? with
  | some (.o m) => Δ.set i (.v (frzO m))
  | _ => Δ
/-- ahead of the rest, slot i is let go -/
def tFrz (i : Nat) (t : ST) : ST := fun Δ => t (frzS i Δ)
theorem b_frz {i : Nat} {t : ST} (h : ISs γ X sts t) : ISs γ X sts (tFrz i t) := .mk fun b u M0 Δ Δr M n ks S w => by
  unfold tFrz frzS at w
  split at w
  · rename_i m hm
    obtain ⟨q, hq, hM⟩ := S.own hm
    exact ss_frz1 hq hM (h.go b u M0 _ _ _ n ks (S.frz hm hq) w)
  · exact h.go b u M0 Δ Δr M n ks S w
/-- return x, x owned -/
def tRetO (i : Nat) : ST := fun Δ => match Δ[i]? with
  | some (.o m) => .ret (.rt (frzO m))
  | some (.v d) => .ret (.rt d)
  | _ => .fail
theorem r_retO {i : Nat} (hN : X.N[i]? = some x) (hv : Vis X.env.scope x) (hd : (x == ("__debug__" : Str)) = false) (hcd : (x == ("__classdict__" : Str)) = false) : IS γ X (.Return (some (.Name x px)) pos) (tRetO i) := .mk fun b u M0 Δ Δr M n ks S w => by
  unfold tRetO at w
  split at w
  · rename_i m hm
    obtain ⟨q, hq, hM⟩ := S.own hm
    have S2 := S.frz hm hq
    refine s_ret (ev_frz1 (ev_var hN hv hd hcd hq ⟨q, _, rfl, hM, ?_⟩))
    have w1 := w (mdel M q) (Aft.of0 S2)
    rw [frzO_rn] at w1
    exact w1
  · rename_i d hm
    exact s_ret (ev_var hN hv hd hcd (S.rel.v i d hm) (w M (Aft.of0 S)))
  · exact w.elim
end
/-! ### a def -/
/-- which parameters are only looked at -/
def slOf : List Bool → List D → List Sl
  | true :: fl, d :: ds => .w d :: slOf fl ds
  | false :: fl, d :: ds => .v d :: slOf fl ds
  | [], ds => ds.map Sl.v
  | _ :: _, [] => []
def startS (fl : List Bool) (N : Nat) (ds : List D) : List Sl := slOf fl ds ++ List.replicate (N - ds.length) .e
def runF (fl : List Bool) (np N : Nat) (t : ST) (ds : List D) : Pg D := if ds.length = np then (t (startS fl N ds)).bind fun o => match o with
  | .nx _ => .ret .non
  | .rt d => .ret d
  | _ => .fail else .fail
theorem slOf_len : ∀ (fl : List Bool) (ds : List D), (slOf fl ds).length = ds.length
  | [], ds => by unfold slOf; rw [List.length_map]
  | true :: fl, d :: ds => by unfold slOf; rw [List.length_cons, List.length_cons, slOf_len fl ds]
  | false :: fl, d :: ds => by unfold slOf; rw [List.length_cons, List.length_cons, slOf_len fl ds]
  | true :: _, [] => by unfold slOf; rfl
  | false :: _, [] => by unfold slOf; rfl
theorem slOf_rel {ρ : Nat → Addr} {b : Bool} {M : Store} : ∀ {fl : List Bool} {ds drs : List D}, VwL ρ b M fl ds drs → (∀ (i : Nat) d, (slOf fl ds)[i]? = some (.v d) → drs[i]? = some (rn ρ d)) ∧ (∀ (i : Nat) d, (slOf fl ds)[i]? = some (.w d) → ∃ dr, drs[i]? = some dr ∧ Vw ρ b M d dr) ∧ ∀ (i : Nat) m, (slOf fl ds)[i]? ≠ some (.o m)
  | [], ds, drs, h => by
    unfold VwL at h
    subst h
    unfold slOf
    refine ⟨fun i d e => ?_, fun i d e => ?_, fun i m e => ?_⟩
    · rw [List.getElem?_map] at e
      obtain ⟨d', h1, e1⟩ := Option.map_eq_some_iff.mp e
      cases e1
      rw [rnL_get, h1]
      rfl
    · rw [List.getElem?_map] at e
      obtain ⟨d', h1, e1⟩ := Option.map_eq_some_iff.mp e
      cases e1
    · rw [List.getElem?_map] at e
      obtain ⟨d', h1, e1⟩ := Option.map_eq_some_iff.mp e
      cases e1
  | true :: fl, d :: ds, dr :: drs, h => by
    unfold VwL at h
    obtain ⟨a1, a2, a3⟩ := slOf_rel h.2
    unfold slOf
    refine ⟨fun i c e => ?_, fun i c e => ?_, fun i m e => ?_⟩
    · cases i with
      | zero => cases e
      | succ i => exact a1 i c e
    · cases i with
      | zero => cases e; exact ⟨dr, rfl, h.1⟩
      | succ i => exact a2 i c e
    · cases i with
      | zero => cases e
      | succ i => exact a3 i m e
  | false :: fl, d :: ds, dr :: drs, h => by
    unfold VwL at h
    obtain ⟨a1, a2, a3⟩ := slOf_rel h.2
    unfold slOf
    refine ⟨fun i c e => ?_, fun i c e => ?_, fun i m e => ?_⟩
    · cases i with
      | zero => cases e; show some dr = _; rw [h.1]
      | succ i => exact a1 i c e
    · cases i with
      | zero => cases e
      | succ i => exact a2 i c e
    · cases i with
      | zero => cases e
      | succ i => exact a3 i m e
  | true :: _, [], _, h => by unfold VwL at h; exact h.elim
  | false :: _, [], _, h => by unfold VwL at h; exact h.elim
  | true :: _, _ :: _, [], h => by unfold VwL at h; exact h.elim
  | false :: _, _ :: _, [], h => by unfold VwL at h; exact h.elim
theorem app_get {α : Type} {l r : List α} {i : Nat} {x : α} (h : (l ++ r)[i]? = some x) : (i < l.length ∧ l[i]? = some x) ∨ (l.length ≤ i ∧ x ∈ r) := by
  by_cases hi : i < l.length
  · rw [List.getElem?_append_left hi] at h
    exact .inl ⟨hi, h⟩
  · rw [List.getElem?_append_right (by omega)] at h
    exact .inr ⟨by omega, List.mem_of_getElem? h⟩
theorem start_rel {ρ : Nat → Addr} {b : Bool} {M : Store} (N : List Str) {fl : List Bool} {ds drs : List D} (h : VwL ρ b M fl ds drs) : Rel ρ an b M (startS fl N.length ds) (startD N drs) M := by
  obtain ⟨a1, a2, a3⟩ := slOf_rel h
  have hl : drs.length = ds.length := VwL.len h
  have at_ : ∀ (i : Nat) (z : Sl), (startS fl N.length ds)[i]? = some z → z ≠ .e → i < ds.length ∧ (slOf fl ds)[i]? = some z := fun i z e ne => by
    rcases app_get e with ⟨h1, h2⟩ | ⟨_, h2⟩
    · exact ⟨by rw [slOf_len] at h1; exact h1, h2⟩
    · exact (ne (List.eq_of_mem_replicate h2)).elim
  have to_ : ∀ (i : Nat) (d : D), i < ds.length → drs[i]? = some d → (startD N drs)[i]? = some (some d) := fun i d hi e => by
    unfold startD
    rw [List.getElem?_append_left (by rw [List.length_map, hl]; exact hi), List.getElem?_map, e]
    rfl
  refine ⟨by unfold startS startD; simp [slOf_len, hl], fun i d e => ?_, fun i m e => ?_, fun i j m m' q n e => ?_, fun i d e => ?_⟩
  · obtain ⟨hi, e1⟩ := at_ i _ e (by simp)
    exact to_ i _ hi (a1 i d e1)
  · obtain ⟨hi, e1⟩ := at_ i _ e (by simp)
    exact (a3 i m e1).elim
  · obtain ⟨hi, e1⟩ := at_ i _ e (by simp)
    exact (a3 i m e1).elim
  · obtain ⟨hi, e1⟩ := at_ i _ e (by simp)
    obtain ⟨dr, h1, h2⟩ := a2 i d e1
    exact ⟨dr, to_ i dr hi h1, h2⟩
section
variable {P : Program} {w : World} {K : PySem.W.Frag} {mg : Str → Option Value} {base : Heap} {γ : Nat → Addr}
theorem fn_ok {F : List D → Pg D} {x qual : Str} {st : Stmt} {f : Addr} {fd : FuncData} {N ps : List Str} {n : Nat} {t : ST} {dvs : List V} {fl : List Bool} (hF : F = runF fl ps.length N.length t) (Fn : FnD K x qual st dvs f fd) (S : FnScope N ps (defScope st))
    (hbody : ∀ (cdv : Value) (A : Around) (outer : List Env) (s : Shared) (H : Hp) (E : XK), Room n (A.deeper (PyProof.Rows.envOfC qual (defScope st) s.heap.objs.size f cdv)) → ISs γ (XOf P w K mg base N qual st f cdv A outer s H E) (defBody st) t) :
    FnOk P w K mg base CX0 (n + 1) f fd ps (spOf K (spW γ fl F)) := by
  subst hF
  refine ok_dD Fn S (fun drs M k ⟨b, u, ds, m, e, U, h⟩ => ?_) fun cdv A outer s H E drs M k hr ⟨b, u, ds, m, e, U, h⟩ => ?_
  · unfold runF at h
    split at h
    · rw [VwL.len e]; assumption
    · exact h.elim
  · unfold runF at h
    split at h
    · refine (hbody cdv A outer s H E hr).go b u M (startS fl N.length ds) _ M m _ ⟨start_rel N e, U, KeepB.refl⟩ ((wpB_bind.1 h).mono fun o n1 w1 => ?_)
      cases o with
      | nx Δ' =>
        intro Δr' M' S'
        have w2 := w1 M' (Aft.of0 S')
        rw [rn_non] at w2
        exact w2
      | rt d => exact w1
      | bk _ => exact w1.elim
      | ct _ => exact w1.elim
    · exact h.elim
end
end DL
end
section
set_option Elab.async false
set_option linter.all false
set_option maxRecDepth 100000
namespace DL
open PySem L2 PyProof.Rows
theorem rnL_nil {ρ : Nat → Addr} : rnL ρ [] = [] := by unfold rnL; rfl
theorem rnL_cons {ρ : Nat → Addr} (d : D) (ds : List D) : rnL ρ (d :: ds) = rn ρ d :: rnL ρ ds := by conv => lhs; unfold rnL
theorem rnL2 {ρ : Nat → Addr} (d d2 : D) : rnL ρ [d, d2] = [rn ρ d, rn ρ d2] := by rw [rnL_cons, rnL_cons, rnL_nil]
theorem VwL0 {ρ : Nat → Addr} {b : Bool} {M : Store} {ds drs : List D} (h : drs = rnL ρ ds) : VwL ρ b M [] ds drs := by unfold VwL; exact h
/-! ### instances -/
def isC (c : Nat) : D → Bool
  | .ins C _ _ => C == c + 1
  | _ => false
theorem isC_is {c : Nat} {d : D} (h : isC c d = true) : ∃ fs ds, d = .ins (c + 1) fs ds := by
  unfold isC at h
  split at h
  · rename_i C fs ds
    have := eq_of_beq h
    subst this
    exact ⟨fs, ds, rfl⟩
  · cases h
theorem fld_rn {ρ : Nat → Addr} {f : Str} : ∀ {fs : List Str} {ds : List D} {r : D}, fldD fs ds f = some r → fldD fs (rnL ρ ds) f = some (rn ρ r)
  | [], _, _, h => by unfold fldD at h; cases h
  | _ :: _, [], _, h => by unfold fldD at h; cases h
  | g :: fs, d :: ds, r, h => by
    unfold rnL
    unfold fldD at h ⊢
    split at h
    · cases h; rfl
    · exact fld_rn h
def fldO (c : Nat) (f : Str) : D → Option D
  | .ins C fs ds => if C = c + 1 then fldD fs ds f else none
  | _ => none
section
variable {γ : Nat → Addr} {X : Cx} {a c' e e2 o tg : Expr} {es rest : List Expr} {pos p apos : Pos} {x f m : Str} {s t : SE} {c n : Nat} {F : List D → Pg D} {kws : List Keyword} {kn : List Str}
theorem i_fld (hc : Cls X.K (γ c)) (hn : NoAttr X.K (γ c) f) (h : IE γ X e s) (hb : attributeBase e f X.env (eval e X.env) = eval e X.env := by rfl) : IE γ X (.Attribute e f pos) (c1 (fldO c f) s) := .mk fun b u M0 Δ Δr M n k S w => by
  refine ev_fld (h.go b u M0 Δ Δr M n _ S ((wpB_bind.1 w).mono fun d n1 w1 M1 A1 => ?_)) hb
  obtain ⟨r, h1, h2⟩ := wpB_ofO w1
  unfold fldO at h1
  split at h1
  · split at h1
    · rename_i C fs ds e
      subst e
      rw [rn_ins]
      exact ⟨_, _, _, _, rfl, hc, hn, fld_rn h1, h2 M1 A1⟩
    · cases h1
  · cases h1
def cProp (c : Nat) (F : List D → Pg D) (s : SE) : SE := fun Δ => (s Δ).bind fun d => if isC c d = true then F [d] else .fail
theorem i_prop (hc : Cls X.K (γ c)) (pr : PropD X.prog X.w X.K X.mg X.base (γ c) f n (spW γ [] F)) (hr : Room (n + 1) X.A) (h : IE γ X e s) (hb : attributeBase e f X.env (eval e X.env) = eval e X.env := by rfl) : IE γ X (.Attribute e f pos) (cProp c F s) := .mk fun b u M0 Δ Δr M n k S w => by
  refine ev_prop hc pr hr (h.go b u M0 Δ Δr M n _ S ((wpB_bind.1 w).mono fun d n1 w1 M1 A1 => ?_)) hb
  split at w1
  · rename_i hd
    obtain ⟨fs, ds, rfl⟩ := isC_is hd
    rw [rn_ins]
    refine ⟨_, _, rfl, b, u, [.ins (c + 1) fs ds], n1, ?_, A1.urn, w1.mono fun d n2 q M2 A2 => q M2 (A1.trans A2)⟩
    exact VwL0 (by rw [rnL_cons, rnL_nil, rn_ins])
  · exact w1.elim
def noFd (m : Str) : D → Bool
  | .ins _ fs _ => noF fs m
  | _ => false
def cMeth (c : Nat) (m : Str) (F : List D → Pg D) (s : SE) (t : SA) : SE := fun Δ => (s Δ).bind fun d => if (isC c d && noFd m d) = true then (t Δ).bind fun ds => F (d :: ds) else .fail
theorem i_meth {t : SA} {pl : PySem.Sem Bool} (hc : Cls X.K (γ c)) (mt : MethD X.prog X.w X.K X.mg X.base (γ c) m n (spW γ [] F)) (hr : Room n X.A) (h : IE γ X o s) (ha : IA γ X (e :: es) t)
    (hst : starEach (e :: es) X.env = (false, eval e X.env) :: starEach es X.env := by rfl) (hpl : (backTo pos (starEach es X.env)).any (·.1) = false := by rfl)
    (ht : eval (.Call (.Attribute o m apos) (e :: es) [] pos) X.env = (do
      let ov ← eval o X.env
      standAt apos.atName
      let (f, first) ← holding [ov] (getMethod ov m pl)
      callWith pos f first (backTo pos (starEach (e :: es) X.env)) (backToKw pos (keywordEach [] X.env))) := by rfl) : IE γ X (.Call (.Attribute o m apos) (e :: es) [] pos) (cMeth c m F s t) := .mk fun b u M0 Δ Δr M n k S w => by
  refine ev_meth (pl := pl) hc mt hr (h.go b u M0 Δ Δr M n _ S ((wpB_bind.1 w).mono fun d n1 w1 M1 A1 => ?_)) hst hpl ht
  split at w1
  · rename_i hd
    rw [Bool.and_eq_true] at hd
    obtain ⟨fs, ds, rfl⟩ := isC_is hd.1
    rw [rn_ins]
    refine ⟨_, _, rfl, hd.2, ha.go b u M0 Δ Δr M1 n1 _ (S.aft A1) ((wpB_bind.1 w1).mono fun as n2 w2 M2 A2 => ⟨b, u, .ins (c + 1) fs ds :: as, n2, ?_, A2.urn, w2.mono fun d n3 q M3 A3 => q M3 ((A1.trans A2).trans A3)⟩)⟩
    exact VwL0 (by rw [rnL_cons, rn_ins])
  · exact w1.elim
/-! keywords: the values in the order of the parameters -/
structure IK (γ : Nat → Addr) (X : Cx) (kws : List Keyword) (s : SA) : Prop where
  go : ∀ b u M0 Δ Δr M n (k : AK), SI γ b u M0 Δ Δr M n → wpB b n (s Δ) (fun d n' => ∀ M', Aft b u M M' n' → k (rnL (rho γ u) d) M') → EvK X kws Δr M k
theorem k_nil : IK γ X [] aN := .mk fun b u M0 Δ Δr M n k S w => by
  have w := w M S.here
  unfold rnL at w
  exact ek_nil w
theorem k_cons {t : SA} {nm : Option Str} {kpos : Pos} (h : IE γ X e s) (ht : IK γ X kws t) : IK γ X (⟨nm, e, kpos⟩ :: kws) (aC s t) := .mk fun b u M0 Δ Δr M n k S w => ek_cons (h.go b u M0 Δ Δr M n _ S ((wpB_bind.1 w).mono fun d n1 w1 M1 A1 => ht.go b u M0 Δ Δr M1 n1 _ (S.aft A1) ((wpB_bind.1 w1).mono fun ds n2 w2 M2 A2 => by
  have w3 := w2 M2 (A1.trans A2)
  unfold rnL at w3
  exact w3)))
/-- a way to put values in order -/
structure Ord (g : List D → List D → List D) : Prop where
  rn : ∀ (ρ : Nat → Addr) ds es, g (rnL ρ ds) (rnL ρ es) = rnL ρ (g ds es)
def cCallK (F : List D → Pg D) (g : List D → List D → List D) (k : Nat) (s t : SA) : SE := fun Δ => (s Δ).bind fun ds => (t Δ).bind fun es => if es.length = k then F (g ds es) else .fail
/-! own operators -/
def cOwn (c : Nat) (F : List D → Pg D) (s t : SE) : SE := fun Δ => (s Δ).bind fun d => (t Δ).bind fun d2 => if (isC c d && isC c d2) = true then F [d, d2] else .fail
def cOwnIn (neg : Bool) (c : Nat) (F : List D → Pg D) (s t : SE) : SE := fun Δ => (s Δ).bind fun d => (t Δ).bind fun d2 => if isC c d2 = true then (F [d2, d]).bind fun r => (ofO (toB r)).bind fun z => .ret (.bl (if neg then !z else z)) else .fail
/-! own == -/
structure EqFacts (K : PySem.W.Frag) (γ : Nat → Addr) (c : Nat) (ts : List String) (cs : List Nat) : Prop where
  ty : ∀ t ∈ ts, PySem.W.notFirst K (γ c) (.type t) = true
  cl : ∀ d ∈ cs, TyC K (γ d) ∧ PySem.W.notFirst K (γ c) (.ref (γ d)) = true
/-! isinstance of an own class -/
structure IsFacts (K : PySem.W.Frag) (γ : Nat → Addr) (c : Nat) (ts : List (String × Bool)) (cs : List (Nat × Bool)) : Prop where
  ty : ∀ t z, (t, z) ∈ ts → PySem.W.kitOne K (.type t) (.ref (γ c)) = some z
  cl : ∀ d z, (d, z) ∈ cs → TyC K (γ d) ∧ PySem.W.kitOne K (.ref (γ d)) (.ref (γ c)) = some z
def isiC (ts : List (String × Bool)) (cs : List (Nat × Bool)) (d : D) : Option D := match tyD d with
  | some t => (ts.find? fun q => q.1 == t).map fun q => .bl q.2
  | none => match d with
    | .ins C _ _ => (cs.find? fun q => C == q.1 + 1).map fun q => .bl q.2
    | _ => none
theorem i_isiO {ts : List (String × Bool)} {cs : List (Nat × Bool)} (hg : Gl X "isinstance") (hm : X.mg "isinstance" = none) (I : IsFacts X.K γ c ts cs) (hC : X.mg x = some (.ref (γ c))) (hgC : Gl X x) (h : IE γ X e s) (hs : starEach [e, .Name x p] X.env = (false, eval e X.env) :: starEach [.Name x p] X.env := by rfl) (hs2 : starEach [.Name x p] X.env = [(false, eval (.Name x p) X.env)] := by rfl) (hpl : (backTo pos (starEach [.Name x p] X.env)).any (·.1) = false := by rfl) (hdb : (x == ("__debug__" : Str)) = false := by decide) : IE γ X (.Call (.Name "isinstance" apos) [e, .Name x p] [] pos) (c1 (isiC ts cs) s) := .mk fun b u M0 Δ Δr M n k S w => by
  refine ev_isiO hg hm (h.go b u M0 Δ Δr M n _ S ((wpB_bind.1 w).mono fun d n1 w1 M1 A1 => ev_gC hC hgC ?_ hdb)) hs hs2 hpl
  obtain ⟨r, h1, h2⟩ := wpB_ofO w1
  have h2 := h2 M1 A1
  unfold isiC at h1
  split at h1
  · rename_i t ht
    obtain ⟨q, h3, rfl⟩ := Option.map_eq_some_iff.mp h1
    have h4 := List.find?_some h3
    have e1 := eq_of_beq h4
    rw [rn_bl] at h2
    refine ⟨.type t, γ c, q.2, .inl ⟨t, tyD_rn ht, rfl⟩, rfl, I.ty t q.2 ?_, h2⟩
    rw [← e1]
    exact List.mem_of_find?_eq_some h3
  · split at h1
    · rename_i C fs ds _
      obtain ⟨q, h3, rfl⟩ := Option.map_eq_some_iff.mp h1
      have h4 := List.find?_some h3
      have e1 := eq_of_beq h4
      subst e1
      rw [rn_bl] at h2
      obtain ⟨k1, k2⟩ := I.cl q.1 q.2 (List.mem_of_find?_eq_some h3)
      exact ⟨.ref (γ q.1), γ c, q.2, .inr ⟨γ q.1, fs, rnL (rho γ u) ds, by rw [rn_ins]; rfl, k1, rfl⟩, rfl, k2, h2⟩
    · cases h1
/-! ### made -/
def spN (γ : Nat → Addr) (c : Nat) (F : List D → Pg D) : SpD := fun drs M k => ∃ b u ds n, drs = .cell u.2 :: rnL (rho γ u) ds ∧ M u.2 = some (.ins (γ c) [] []) ∧ (b = true → u.2 ≠ u.1) ∧ UrnB b M u.1 n ∧
  wpB b n (F ds) fun d n' => ∃ fs vs, d = .ins (c + 1) fs vs ∧ ∀ M', Aft b u (mdel M u.2) M' n' → M' u.2 = some (.ins (γ c) fs (rnL (rho γ u) vs)) → k .non M'
theorem spN_mono : SpMono (spN γ c F) := fun drs M k k' hk ⟨b, u, ds, n, h1, h2, h3, h4, h5⟩ => ⟨b, u, ds, n, h1, h2, h3, h4, h5.mono fun d m ⟨fs, vs, e, q⟩ => ⟨fs, vs, e, fun M' A z => hk _ _ (q M' A z)⟩⟩
theorem rho_an (u : Addr × Addr) (q : Addr) : rho γ (u.1, q) = rho γ u := by
  funext i
  cases i with
  | zero => rfl
  | succ i => rfl
theorem newF_of {b : Bool} {u : Addr × Addr} {M : Store} {n : Nat} {k : DK} {ds : List D} (hF : ∀ d, F ds = .ret d → True) (U : UrnB b M u.1 n) (w : wpB b n (F ds) fun d n' => ∃ fs vs, d = .ins (c + 1) fs vs ∧ ∀ M', Aft b u M M' n' → k (rn (rho γ u) d) M') : NewF (γ c) (spN γ c F) k (fun q => .cell q :: rnL (rho γ u) ds) M := fun q hq => by
  have hqu : b = true → q ≠ u.1 := fun hb e => by
    subst e
    exact (U hb).some hq
  refine ⟨b, (u.1, q), ds, n, (by rw [rho_an u q] : (D.cell q :: rnL (rho γ u) ds) = .cell q :: rnL (rho γ (u.1, q)) ds), mup_same, hqu, fun hb => (U hb).mup (hqu hb), w.mono fun d m ⟨fs, vs, e, h⟩ => ⟨fs, vs, e, fun M' A hM' => ⟨rfl, fs, _, hM', ?_⟩⟩⟩
  subst e
  rw [mdel_mup hq] at A
  have A2 : Aft b u M (mdel M' q) m := ⟨fun r mm hr e => by
    have z : r ≠ q := fun z => by rw [z, hq] at e; cases e
    rw [mdel_ne z]
    exact A.keep r mm hr e, fun hb => (A.urn hb).mdel (hqu hb)⟩
  have h2 := h _ A2
  rw [rn_ins] at h2
  rw [rho_an u q]
  exact h2
/-- F makes instances of c -/
def mkP (c : Nat) (F : List D → Pg D) (ds : List D) : Pg D := (F ds).bind fun d => if isC c d = true then .ret d else .fail
theorem mkP_of {b : Bool} {n : Nat} {k : D → Nat → Prop} {ds : List D} (w : wpB b n (mkP c F ds) k) : wpB b n (F ds) fun d n' => ∃ fs vs, d = .ins (c + 1) fs vs ∧ k d n' := (wpB_bind.1 w).mono fun d m h => by
  split at h
  · rename_i hd
    obtain ⟨fs, vs, e⟩ := isC_is hd
    exact ⟨fs, vs, e, h⟩
  · exact h.elim
def cMk (c : Nat) (F : List D → Pg D) (s : SA) (ad : List D) : SE := fun Δ => (s Δ).bind fun ds => mkP c F (ds ++ ad)
theorem i_make {t : SA} {dv ad : List D} (mk : MakD X.prog X.w X.K X.mg X.base x (γ c) n dv (spN γ c F)) (hr : Room (n + 1) X.A) (hg : Gl X x) (hd : ∀ ρ, dv = rnL ρ ad) (h : IA γ X (e :: es) t) (hdb : (x == ("__debug__" : Str)) = false := by decide)
    (he : starEach (e :: es) X.env = (false, eval e X.env) :: starEach es X.env := by rfl) (hpl : (backTo pos (starEach es X.env)).any (·.1) = false := by rfl) : IE γ X (.Call (.Name x p) (e :: es) [] pos) (cMk c F t ad) := .mk fun b u M0 Δ Δr M n k S w =>
  ev_makeF spN_mono mk hr hg (h.go b u M0 Δ Δr M n _ S ((wpB_bind.1 w).mono fun ds n1 w1 M1 A1 => by
    have q := newF_of (γ := γ) (c := c) (F := F) (k := k) (fun _ _ => trivial) A1.urn ((mkP_of w1).mono fun d m ⟨fs, vs, e, h⟩ => ⟨fs, vs, e, fun M' A => h M' (A1.trans A)⟩)
    rw [rnL_app] at q
    rw [hd (rho γ u)]
    exact q)) hdb he hpl
/-! ### self.f = value -/
def ownI (Δ : List Sl) (i : Nat) : Option (Nat × List Str × List D) := match Δ[i]? with
  | some (.o (.ins C fs ds)) => some (C, fs, ds)
  | _ => none
theorem ownI_is {Δ : List Sl} {i C : Nat} {fs : List Str} {ds : List D} (h : ownI Δ i = some (C, fs, ds)) : Δ[i]? = some (.o (.ins C fs ds)) := by
  unfold ownI at h
  split at h
  · rename_i q
    cases h
    exact q
  · cases h
def putA (c : Nat) (i : Nat) (f : Str) (d : D) (Δ : List Sl) : Option (List Sl) := (ownI Δ i).bind fun q => if q.1 = c + 1 ∧ q.2.1.length < 1000 then some (Δ.set i (.o (.ins q.1 (putN q.2.1 f) (putD q.2.1 q.2.2 f d)))) else none
theorem putD_rn {ρ : Nat → Addr} (fs : List Str) (ds : List D) (f : Str) (d : D) : rnL ρ (putD fs ds f d) = putD fs (rnL ρ ds) f (rn ρ d) := by
  unfold putD
  split
  · rw [rnL_app, rnL_cons, rnL_nil]
  · rw [rnL_map, rnL_map, List.map_set]
/-- a target that is an attribute of what is owned at slot i -/
structure GA (γ : Nat → Addr) (X : Cx) (tg : Expr) (g : D → List Sl → Option (List Sl)) : Prop where
  go : ∀ b u M0 Δ Δr M n d Δ' (k : DS → Store → Prop), SI γ b u M0 Δ Δr M n → g d Δ = some Δ' → (∀ M', SI γ b u M0 Δ' Δr M' n → k Δr M') → GwD X tg (rn (rho γ u) d) Δr M k
theorem ga_attr {i : Nat} {px : Pos} (hN : X.N[i]? = some x) (hv : Vis X.env.scope x) (hd : (x == ("__debug__" : Str)) = false) (hcd : (x == ("__classdict__" : Str)) = false) (hc : Cls X.K (γ c)) (hn : NoAttr X.K (γ c) f) : GA γ X (.Attribute (.Name x px) f pos) (putA c i f) := .mk fun b u M0 Δ Δr M n d Δ' k S h hk => by
  obtain ⟨q, h1, h2⟩ := Option.bind_eq_some_iff.mp h
  split at h2
  · rename_i hq
    cases h2
    obtain ⟨C, fs, ds⟩ := q
    obtain ⟨e1, hl⟩ := hq
    dsimp only at e1 hl
    subst e1
    obtain ⟨r, hr, hM⟩ := S.own (ownI_is h1)
    refine gw_attr (ev_var hN hv hd hcd hr ⟨r, γ c, fs, _, rfl, hM, hc, hn, hl, ?_⟩)
    rw [← putD_rn]
    exact hk _ (S.upd (m' := .ins (c + 1) (putN fs f) (putD fs ds f d)) (ownI_is h1) hr fun _ _ _ _ => ⟨_, _, _, rfl⟩)
  · cases h2
def tAtt (g : D → List Sl → Option (List Sl)) (s : SE) : ST := fun Δ => (s Δ).bind fun d => (ofO (g d Δ)).bind fun Δ1 => .ret (.nx Δ1)
theorem r_att {g : D → List Sl → Option (List Sl)} (h : IE γ X e s) (hG : GA γ X tg g) (hs : swapsWithSole [tg] e pos.line X.env = pure false := by rfl) (hw : swappedStores [tg] e X.env = pure none := by rfl)
    (h1 : (assignEach [tg] X.env).map (·.2) = [assign tg X.env] := by rfl) : IS γ X (.Assign [tg] e pos) (tAtt g s) := .mk fun b u M0 Δ Δr M n ks S w => s_asw (h.go b u M0 Δ Δr M n _ S ((wpB_bind.1 w).mono fun d n1 w1 M1 A1 => by
  obtain ⟨Δ1, q1, w2⟩ := wpB_ofO (wpB_bind.1 w1)
  exact hG.go b u M0 Δ Δr M1 n1 d Δ1 ks.nx (S.aft A1) q1 fun M2 S2 => w2 Δr M2 S2)) hs hw h1
/-- self.f, self.g = .. -/
structure GAs (γ : Nat → Addr) (X : Cx) (tgs : List Expr) (g : List D → List Sl → Option (List Sl)) : Prop where
  go : ∀ b u M0 Δ Δr M n ds Δ' (k : DS → Store → Prop), SI γ b u M0 Δ Δr M n → g ds Δ = some Δ' → (∀ M', SI γ b u M0 Δ' Δr M' n → k Δr M') → GwsD X tgs (rnL (rho γ u) ds) Δr M k
end
/-! ### __init__ -/
def startN (c N : Nat) (ds : List D) : List Sl := .o (.ins (c + 1) [] []) :: (ds.map Sl.v ++ List.replicate (N - 1 - ds.length) .e)
def runN (c np N : Nat) (t : ST) (ds : List D) : Pg D := if ds.length + 1 = np then (t (startN c N ds)).bind fun o => match o with
  | .nx Δ => match (Δ[0]? : Option Sl) with
    | some (.o (.ins C fs vs)) => if C = c + 1 then .ret (.ins C fs vs) else .fail
    | _ => .fail
  | _ => .fail else .fail
section
variable {P : Program} {w : World} {K : PySem.W.Frag} {mg : Str → Option Value} {base : Heap} {γ : Nat → Addr}
theorem startN_rel {b : Bool} {u : Addr × Addr} {M : Store} {c : Nat} (N : List Str) (hN : 0 < N.length) (ds : List D) (hM : M u.2 = some (.ins (γ c) [] [])) (hu : b = true → u.2 ≠ u.1) : Rel (rho γ u) u.2 b (mdel M u.2) (startN c N.length ds) (startD N (.cell u.2 :: rnL (rho γ u) ds)) M := by
  have tl : ∀ (i : Nat) (z : Sl), (ds.map Sl.v ++ List.replicate (N.length - 1 - ds.length) Sl.e)[i]? = some z → z = .e ∨ ∃ d, ds[i]? = some d ∧ z = .v d := fun i z e => by
    rcases app_get e with ⟨h1, h2⟩ | ⟨_, h2⟩
    · rw [List.getElem?_map] at h2
      obtain ⟨d, h3, h4⟩ := Option.map_eq_some_iff.mp h2
      exact .inr ⟨d, h3, h4.symm⟩
    · exact .inl (List.eq_of_mem_replicate h2)
  unfold startN startD
  refine ⟨?_, fun i d e => ?_, fun i m e => ?_, fun i j m m' q n e1 e2 => ?_, fun i d e => ?_⟩
  · simp [rnL_len]
    omega
  · cases i with
    | zero => cases e
    | succ i =>
      rcases tl i _ e with h | ⟨d', h1, h2⟩
      · cases h
      · cases h2
        rw [List.map_cons, List.cons_append, List.getElem?_cons_succ, List.getElem?_append_left (by rw [List.length_map, rnL_len]; exact (List.getElem?_eq_some_iff.mp h1).1), List.getElem?_map, rnL_get, h1]
        rfl
  · cases i with
    | zero =>
      cases e
      exact ⟨u.2, rfl, hM, mdel_same, hu, fun _ _ _ _ => rfl⟩
    | succ i =>
      rcases tl i _ e with h | ⟨d', h1, h2⟩
      · cases h
      · cases h2
  · cases i with
    | zero =>
      cases j with
      | zero => intro _ _; exact n rfl
      | succ j =>
        rcases tl j _ e2 with h | ⟨d', h1, h2⟩
        · cases h
        · cases h2
    | succ i =>
      rcases tl i _ e1 with h | ⟨d', h1, h2⟩
      · cases h
      · cases h2
  · cases i with
    | zero => cases e
    | succ i =>
      rcases tl i _ e with h | ⟨d', h1, h2⟩
      · cases h
      · cases h2
theorem init_ok {F : List D → Pg D} {x qual : Str} {st : Stmt} {f : Addr} {fd : FuncData} {N ps : List Str} {n c : Nat} {t : ST} {dvs : List V} (hF : F = runN c ps.length N.length t) (Fn : FnD K x qual st dvs f fd) (S : FnScope N ps (defScope st)) (hN : 0 < N.length)
    (hbody : ∀ (cdv : Value) (A : Around) (outer : List Env) (s : Shared) (H : Hp) (E : XK), Room n (A.deeper (PyProof.Rows.envOfC qual (defScope st) s.heap.objs.size f cdv)) → ISs γ (XOf P w K mg base N qual st f cdv A outer s H E) (defBody st) t) :
    FnOk P w K mg base CX0 (n + 1) f fd ps (spOf K (spN γ c F)) := by
  subst hF
  refine ok_dD Fn S (fun drs M k ⟨b, u, ds, m, e, h2, h3, U, h⟩ => ?_) fun cdv A outer s H E drs M k hr ⟨b, u, ds, m, e, h2, h3, U, h⟩ => ?_
  · unfold runN at h
    split at h
    · rw [e, List.length_cons, rnL_len]; assumption
    · exact h.elim
  · subst e
    unfold runN at h
    split at h
    · refine (hbody cdv A outer s H E hr).go b u (mdel M u.2) (startN c N.length ds) _ M m _ ⟨startN_rel N hN ds h2 h3, U, fun q mm hq e => ?_⟩ ((wpB_bind.1 h).mono fun o n1 w1 => ?_)
      · by_cases z : q = u.2
        · rw [z, mdel_same] at e; cases e
        · rw [mdel_ne z] at e; exact e
      · cases o with
        | nx Δ' =>
          intro Δr' M' S'
          dsimp only at w1
          split at w1
          · rename_i C fs vs hΔ
            split at w1
            · rename_i hC
              subst hC
              obtain ⟨fs', vs', e, q⟩ := w1
              cases e
              obtain ⟨q2, e1, e2, e3, e4, e5⟩ := S'.rel.o 0 _ hΔ
              have e6 := e5 _ _ _ rfl
              subst e6
              exact q M' (Aft.of0 S') e2
            · exact w1.elim
          · exact w1.elim
        | rt d => exact w1.elim
        | bk _ => exact w1.elim
        | ct _ => exact w1.elim
    · exact h.elim
end
end DL
end
section
set_option Elab.async false
set_option linter.all false
set_option maxRecDepth 100000
namespace DL
open PySem L2 PyProof.Rows
/-! ### draws -/
def lowOk : Int → Bool
  | .ofNat n => Nat.ble 1 n && Nat.ble n 1606938044258990275541962092341162602522202993782792835301375
  | .negSucc _ => false
theorem lowOk_is {low : Int} : lowOk low = true ↔ 0 < low ∧ low < 2 ^ 200 := by
  cases low with
  | ofNat n =>
    unfold lowOk
    rw [Bool.and_eq_true]
    constructor
    · rintro ⟨h1, h2⟩
      have h1 := Nat.le_of_ble_eq_true h1
      have h2 := Nat.le_of_ble_eq_true h2
      constructor
      · show (0 : Int) < (n : Int); omega
      · show (n : Int) < 2 ^ 200; omega
    · rintro ⟨h1, h2⟩
      have h1 : (0 : Int) < (n : Int) := h1
      have h2 : (n : Int) < 2 ^ 200 := h2
      exact ⟨Nat.ble_eq_true_of_le (by omega), Nat.ble_eq_true_of_le (by omega)⟩
  | negSucc n =>
    unfold lowOk
    constructor
    · intro h; cases h
    · rintro ⟨h1, _⟩; omega
def takeP : List D → Pg D
  | [.cell 0, .int low] => if lowOk low = true then .draw low fun d => .ret (.int d) else .fail
  | _ => .fail
theorem keepB_of {b : Bool} {u : Addr} {M M' : Store} (hb : b = true) : KeepB b u M M' ↔ Keep u M M' := ⟨fun h q m n e => h q m (fun _ => n) e, fun h q m n e => h q m (n hb) e⟩
section
variable {P : Program} {w : World} {K : PySem.W.Frag} {mg : Str → Option Value} {base : Heap} {γ : Nat → Addr} {n : Nat} {f : Addr} {fd : FuncData} {ps : List Str}
theorem sp_imp {sp sp' : SpD} (F : FnOk P w K mg base CX0 n f fd ps (spOf K sp)) (h : ∀ ds M k, sp' ds M k → sp ds M k) : FnOk P w K mg base CX0 n f fd ps (spOf K sp') := F.imp fun vs H Q E ⟨ds, F, M, k, a, b, c, d⟩ => ⟨ds, F, M, k, a, b, h _ _ _ c, d⟩
theorem take_ok (F : FnOk P w K mg base CX0 n f fd ps (spOf K spTake)) : FnOk P w K mg base CX0 n f fd ps (spOf K (spW γ [] takeP)) := sp_imp F fun drs M k ⟨b, u, ds, m, e, U, h⟩ => by
  unfold VwL at e
  subst e
  unfold takeP at h
  split at h
  · rename_i low _
    split at h
    · rename_i hl
      have hl := lowOk_is.1 hl
      obtain ⟨hb, h1, h2, r, e, h3⟩ := h
      subst e
      refine ⟨u.1, low, r, ?_, hl.1, lg hl.1 hl.2, U hb, fun d M' d0 d1 hK hU => ?_⟩
      · rw [rnL2, rn_cell, rn_int]
        rfl
      · have h4 := h3 d d0 d1 M' ⟨(keepB_of hb).2 hK, fun _ => hU⟩
        rw [rn_int] at h4
        exact h4
    · exact h.elim
  · exact h.elim
theorem fail_ok {x qual : Str} {st : Stmt} {N : List Str} {dvs : List V} {fl : List Bool} (Fn : FnD K x qual st dvs f fd) (S : FnScope N ps (defScope st)) : FnOk P w K mg base CX0 (n + 1) f fd ps (spOf K (spW γ fl fun _ => .fail)) :=
  ok_dD Fn S (fun drs M k ⟨b, u, ds, m, e, U, h⟩ => h.elim) fun cdv A outer s H E drs M k hr ⟨b, u, ds, m, e, U, h⟩ => h.elim
end
/-! ### the call of a law's part with its own box -/
def spBox : SpD := fun ds M k => ∃ (ns : List Int) (j : Nat), ds = [.lst (ns.map D.int), .int (j : Nat)] ∧ j < ns.length ∧ j < 100 ∧ ∀ u M', Keep0 M M' → M u = none → Urn M' u 1000000 → k (.cell u) M'
section
variable {γ : Nat → Addr} {X : Cx} {a c e e2 : Expr} {es : List Expr} {pos p pos2 p2 : Pos} {x y : Str} {s t : SE} {m n : Nat} {F : List D → Pg D}
/-- R(B(cells, k)): true, whatever is drawn -/
def cBox (s t : SE) : SE := fun Δ => (s Δ).bind fun d => (t Δ).bind fun j => match d, j with
  | .lst xs, .int j => match unI xs with
    | some ns => if 0 ≤ j ∧ j < ns.length ∧ j < 100 then .ret (.bl true) else .fail
    | none => .fail
  | _, _ => .fail
theorem i_box (CB : Cal X.prog X.w X.K X.mg X.base y m spBox) (CR : Cal X.prog X.w X.K X.mg X.base x n (spW γ [] F)) (hB : Room m X.A) (hR : Room n X.A) (gB : Gl X y) (gR : Gl X x) (hW : wpB true 1000000 (F [.cell 0]) fun d _ => d = .bl true) (h : IE γ X a s) (h2 : IE γ X c t)
    (dB : (y == ("__debug__" : Str)) = false := by decide) (dR : (x == ("__debug__" : Str)) = false := by decide) (e1 : starEach [a, c] X.env = (false, eval a X.env) :: starEach [c] X.env := by rfl) (e2 : starEach [c] X.env = [(false, eval c X.env)] := by rfl) (e3 : (backTo pos2 (starEach [c] X.env)).any (·.1) = false := by rfl)
    (e4 : starEach [.Call (.Name y p2) [a, c] [] pos2] X.env = (false, eval (.Call (.Name y p2) [a, c] [] pos2) X.env) :: starEach [] X.env := by rfl) (e5 : (backTo pos (starEach [] X.env)).any (·.1) = false := by rfl) :
    IE γ X (.Call (.Name x p) [.Call (.Name y p2) [a, c] [] pos2] [] pos) (cBox s t) := .mk fun b u M0 Δ Δr M n k S w => by
  refine ev_call CR hR gR (one1 (ev_call CB hB gB (two2 (h.go b u M0 Δ Δr M n _ S ((wpB_bind.1 w).mono fun d n1 w1 M1 A1 => h2.go b u M0 Δ Δr M1 n1 _ (S.aft A1) ((wpB_bind.1 w1).mono fun j n2 w2 M2 A2 => ?_))) e1 e2) dB e1 e3) e4) dR e4 e5
  split at w2
  · split at w2
    · rename_i _ _ xs j _ ns hn
      split at w2
      · rename_i hj
        rw [unI_eq hn, rn_lst, rn_ints, rn_int]
        refine ⟨ns, j.toNat, by rw [Int.toNat_of_nonneg hj.1], by omega, by omega, fun v M3 hk0 hv hU => ?_⟩
        have A12 := A1.trans A2
        refine ⟨true, (v, v), [.cell 0], 1000000, by unfold VwL; rw [rnL_cons, rnL_nil, rn_cell]; rfl, fun _ => hU, hW.mono fun d n4 hd M4 A4 => ?_⟩
        subst hd
        have old : ∀ q mm, M q = some mm → q ≠ v := fun q mm e z => ?_
        · have kp : ∀ q mm, M2 q = some mm → M4 q = some mm := fun q mm e => A4.keep q mm (fun _ z => by rw [z] at e; rw [hv] at e; cases e) (hk0 q mm e)
          have w3 := w2 M4 ⟨fun q mm hq e => kp q mm (A12.keep q mm hq e), fun hb => by
            obtain ⟨a1, a2, a3, a4, a5⟩ := A2.urn hb
            exact ⟨a1, a2, a3, kp _ _ a4, a5⟩⟩
          rw [rn_bl] at w3
          rw [rn_bl]
          exact w3
        · subst z
          by_cases hq : b = true → q ≠ u.1
          · rw [A12.keep q mm hq e] at hv; cases hv
          · have hb : b = true := by
              cases b with
              | true => rfl
              | false => exact absurd (fun z => by cases z) hq
            have hqu : q = u.1 := Classical.byContradiction fun z => hq fun _ => z
            obtain ⟨a1, a2, a3, a4, _⟩ := A2.urn hb
            rw [← hqu, hv] at a4
            cases a4
      · exact w2.elim
    · exact w2.elim
  · exact w2.elim
/-! a or b of fresh lists -/
def oOr (s t : SA) : List Sl → Pg Sl := fun Δ => (s Δ).bind fun ds => if ds.isEmpty = true then (t Δ).bind fun es => .ret (.o (.lst es)) else .ret (.o (.lst ds))
theorem io_or {s t : SA} (h : IL γ X a s) (h2 : IL γ X c t) : IO γ X (.BoolOp .Or [a, c] pos) (oOr s t) := .mk fun b u M0 Δ Δr M n k S w => by
  refine ev_orT ((IL.io h).go b u M0 Δ Δr M n _ S ?_)
  show wpB b n ((s Δ).bind fun ds => Pg.ret (Sl.o (MO.lst ds))) _
  refine wpB_bind.2 ((wpB_bind.1 w).mono fun ds n1 w1 M1 dr A1 V => ?_)
  obtain ⟨q, rfl, hM, hM1, h0, hu, hI⟩ := V
  refine ⟨!ds.isEmpty, by rw [tru_cell hM1, rnL_emp], ?_⟩
  cases he : ds.isEmpty with
  | true =>
    rw [he] at w1
    refine ev_one ((IL.io h2).go b u M0 Δ Δr M1 n1 _ (S.aft A1) ?_)
    show wpB b n1 ((t Δ).bind fun ds => Pg.ret (Sl.o (MO.lst ds))) _
    refine wpB_bind.2 ((wpB_bind.1 (show wpB b n1 ((t Δ).bind fun es => Pg.ret (Sl.o (MO.lst es))) _ from w1)).mono fun es n2 w2 M2 dr A2 V2 => ?_)
    obtain ⟨r, rfl, hr, hr1, r0, ru, rI⟩ := V2
    exact w2 M2 _ (A1.trans A2) ⟨r, rfl, (A1.keep.none A1.urn hr).1, hr1, r0, ru, rI⟩
  | false =>
    rw [he] at w1
    exact w1 M1 _ A1 ⟨q, rfl, hM, hM1, h0, hu, hI⟩
end
end DL
namespace DL
open PySem L2 PyProof.Rows
/-! ### what is never come to -/
section
variable {γ : Nat → Addr} {X : Cx} {e : Expr} {st : Stmt}
theorem i_dead : IE γ X e (fun _ => .fail) := .mk fun b u M0 Δ Δr M n k S w => w.elim
theorem r_dead : IS γ X st (fun _ => .fail) := .mk fun b u M0 Δ Δr M n k S w => w.elim
end
/-! ### orders of keywords -/
theorem ordA : Ord (fun a b => a ++ b) := ⟨fun ρ ds es => (rnL_app ds es).symm⟩
end DL
end
section
set_option Elab.async false
set_option linter.all false
set_option maxRecDepth 100000
/-! DL: enumerate over a tuple; count of a tuple -/
namespace DL
open PySem PySem.Spec PyProof.Rows L2
set_option maxHeartbeats 1000000 in
theorem meets_enumB1 {v : Value} {o : Obj} {HH : Heap → Prop} (B : Begins v o HH) :
    Meets (Builtin.«enumerate.__new__» ⟨[.type "enumerate", v], []⟩) (fun _ R s => HH s.heap ∧
      R (.ok (.ret (.ref (s.heap.push o).objs.size))) { s with heap := (s.heap.push o).push { cls := .type "enumerate", data := .fields #[.none, .bool false, .ref s.heap.objs.size, rawInt 0, .none, .none] } }) :=
  .of_wp fun prog w A R s hh => by
    obtain ⟨hp, g, d, tk, os⟩ := s; obtain ⟨hb, hh⟩ := hh
    have esub := sub_enumerate
    have qi : ∀ {A' : Around} {E : Value → Shared → Prop} {Q : Value → Shared → Prop}, Q (.ref hp.objs.size) ⟨hp.push o, g, d, tk, os⟩ → wpAny (model prog w) A' (pyIter v) Q E ⟨hp, g, d, tk, os⟩ :=
      fun q => B.iter prog w _ _ ⟨hp, g, d, tk, os⟩ _ hb q
    wp_walk using qi
    refine wpAny_stack_any fun sta => wpAny_pure ?_
    split
    · rename_i cc _ _ _ _ _
      cases (cc == Value.type "enumerate")
      · wp_walk using qi
        exact ⟨_, rfl, hh⟩
      · wp_walk using qi
        exact ⟨_, rfl, hh⟩
    · wp_walk using qi
      exact ⟨_, rfl, hh⟩
section
variable {prog : Program} {w : World} {A : Around} {E : Value → Shared → Prop} {s : Shared}
theorem call_enumB1 {v : Value} {o : Obj} {HH : Heap → Prop} {Q : Value → Shared → Prop} (B : Begins v o HH) (hb : HH s.heap)
    (hq : ∀ h', IsEnum h' (s.heap.objs.size + 1) s.heap.objs.size 0 .none → h'.get? s.heap.objs.size = some o → h'.objs.size = s.heap.objs.size + 2 →
      (∀ b c, s.heap.get? b = some c → h'.get? b = some c) → Q (.ref (s.heap.objs.size + 1)) { s with heap := h' }) :
    wpAny (model prog w) A (call (.type "enumerate") [v]) Q E s := by
  refine callType_new F.called_enumerate (by decide) (F.typeCall_enumerate_1 _) (F.newCall_enumerate_1 _) (fun obj => F.args_object_init_2 obj _) F.entry_enumerate_new (meets_enumB1 B) ⟨hb, ?_⟩
  have zz : (s.heap.push o).objs.size = s.heap.objs.size + 1 := Heap.size_push ..
  show _ ∧ _
  rw [zz]
  have ee : IsEnum ((s.heap.push o).push { cls := .type "enumerate", data := .fields #[.none, .bool false, .ref s.heap.objs.size, rawInt 0, .none, .none] }) (s.heap.objs.size + 1) s.heap.objs.size 0 .none := by
    have th := Heap.get?_push_size (s.heap.push o) (o := { cls := .type "enumerate", data := .fields #[.none, .bool false, .ref s.heap.objs.size, rawInt 0, .none, .none] }) rfl
    rw [zz] at th; exact th
  exact ⟨⟨_, ee, rfl⟩, hq _ ee (Heap.get?_push_of_some _ (Heap.get?_push_size _ B.free)) (by rw [Heap.size_push, zz]) fun b c x => Heap.get?_push_of_some _ (Heap.get?_push_of_some _ x)⟩
end
/-- the tuple at a, its items with their numbers in new pairs -/
def IteTB (K : PySem.W.Frag) (a : Addr) : It :=
  ⟨fun i H => ∃ (xs : List V) (x : V), SqT K H a xs ∧ xs[i]? = some x, fun i H v H' => ∃ T ob xs, v = .ref T ∧ H T = none ∧ Obj.dict ob = none ∧ H' = upd H T (.frz ob (.tup xs)) ∧ yEn (fun H => SqT K H a) i H xs,
    fun i H => ∃ xs : List V, SqT K H a xs ∧ xs.length = i⟩
theorem turn_enumT {P : Program} {w : World} {K : PySem.W.Frag} {elts : List Expr} {kk : Nat} {tpos : Pos} (a e it : Addr) :
    Turn P w K (.Tuple elts kk tpos) (IteTB K a) [e, it] e (fun i h => (∃ old, IsEnum h e it i old) ∧ h.IsTupleIter it a i ∧ e ≠ it ∧ a ≠ it ∧ a ≠ e) where
  mem := by simp
  obj := fun i h sta b hb => by
    obtain ⟨⟨old, en⟩, ⟨ob, eo, _, ed⟩, _⟩ := sta
    have zz : b = e ∨ b = it := by simpa using hb
    rcases zz with zz | zz
    · rw [zz]; exact ⟨_, en, fun v q => nomatch q⟩
    · rw [zz]; exact ⟨ob, eo, fun v q => by rw [ed] at q; cases q⟩
  keep := fun i h h' sta kp => by
    obtain ⟨⟨old, en⟩, hi, ne⟩ := sta
    exact ⟨⟨old, kp e (by simp) _ en⟩, hi.at fun ob q => kp it (by simp) ob q, ne⟩
  item := by
    intro X eP ew eK hc i pins s σ H E I hf sta hg
    subst eP ew eK
    obtain ⟨⟨old, en⟩, hit, ne, na, nb⟩ := sta
    obtain ⟨xs, x, sq, hx⟩ := hg
    obtain ⟨its, rv, pt, _⟩ := I.tuple sq
    obtain ⟨u, hu, ru⟩ := rv.get hx
    have lu : i < its.toArray.size := by
      obtain ⟨z, _⟩ := List.getElem?_eq_some_iff.mp hu
      simpa using z
    have el : e < s.heap.objs.size := Heap.lt_size en
    have il : it < s.heap.objs.size := by obtain ⟨_, q, _⟩ := hit; exact Heap.lt_size q
    refine wpAny_pyNext_enum_itemD (Draws.tuple (A := X.A.in1) (by exact I.ok.hd hc) it a na its.toArray) en ⟨hit, pt⟩ lu ne (by simp [ne, Ne.symm nb]) fun y h' tk hy ho st' hT hsz hk => ?_
    have ey : y = u := by
      have h1 : its.toArray[i]? = some u := by simpa using hu
      rw [h1] at hy; cases hy; rfl
    subst ey
    refine ⟨_, rfl, wpAny_letOwnedTupleGo_enum (s := { s with heap := h', toks := tk + 1 }) ho fun h'' en' sb => ?_⟩
    have hT2 : h''.get? s.heap.objs.size = some (tObj [.int i tk, y]) := (sb.2 _ (Nat.ne_of_gt el)).trans hT
    have nw := ok_bare (X := X) (xs := [.int (i : Nat), x]) (H' := upd H s.heap.objs.size (.frz (tObj [.int i tk, y]) (.tup [.int (i : Nat), x]))) hT2 (show Vals [V.int (i : Nat), x] [Value.int i tk, y] from .cons ⟨_, rfl⟩ (.cons ru .nil)) (two_le _ _)
    have I1 := I.turnedNew (t' := tk + 1) (ch := [e, it]) (fun b c hb q => (sb.2 b (fun z => hb (by simp [z]))).trans (hk b c (fun z => hb (by simp [z])) (fun z => hb (by simp [z])) q)) hf (Nat.le_refl _) nw
    refine ⟨.ref s.heap.objs.size, _, I1, rfl, ⟨_, _, _, rfl, I.hok.fresh (Nat.le_refl _), rfl, rfl, x, rfl, fun ys hy => by rw [I.tuple_inj hy sq]; exact hx⟩, ⟨⟨y, ?_⟩, st'.1.at fun c q => (sb.2 it (Ne.symm ne)).trans q, ne, na, nb⟩, fun b hb => ?_⟩
    · rw [Int.natCast_succ]; exact en'
    · have lt : b < s.heap.objs.size := by
        have zz : b = e ∨ b = it := by simpa using hb
        rcases zz with zz | zz
        · rw [zz]; exact el
        · rw [zz]; exact il
      rw [upd_ne (Nat.ne_of_lt lt)]
      exact (hf b hb).1
  done := by
    intro X eP ew eK hc i pins s σ H E I hf sta hg
    subst eP ew eK
    obtain ⟨⟨old, en⟩, hit, ne, na, nb⟩ := sta
    obtain ⟨xs, sq, hx⟩ := hg
    obtain ⟨its, rv, pt, _⟩ := I.tuple sq
    obtain ⟨f0, f1, f2, f3, f4, f5⟩ := hf it (by simp)
    have ln := rv.length
    have es : its.toArray.size = i := by simp; omega
    exact wpAny_pyNext_enum_endD (Draws.tuple (A := X.A.in1) (by exact I.ok.hd hc) it a na its.toArray) en (by rw [es]; exact ⟨hit, pt⟩) fun h' eb => ⟨rfl, I.turned (t' := s.toks) (fun b o hb q => eb b o hb q) f0 f1 f3 f4 f5⟩
  self := fun A i s Q E sta hh => let ⟨⟨_, en⟩, _⟩ := sta; wpAny_pyIter_enum en hh
def iEnumA (K : PySem.W.Frag) (ta : TA) : TI := fun σ H R => ta σ H fun vs H1 => ∃ a xs, vs = [.ref a] ∧ ((SqL K H1 a xs ∧ R (IteB K a) H1) ∨ (SqT K H1 a xs ∧ R (IteTB K a) H1))
theorem pi_enumA {X : Cx} {e : Expr} {ta : TA} {p pos tpos : Pos} {elts : List Expr} {kk : Nat} (hg : Gl X "enumerate") (hm : X.mg "enumerate" = none) (ha : PA X [e] ta) (hs : starEach [e] X.env = [(false, eval e X.env)] := by rfl) :
    PI X (.Tuple elts kk tpos) (.Call (.Name "enumerate" p) [e] [] pos) (iEnumA X.K ta) := by
  refine ⟨fun pins s σ H R I hh => Call_ (ld_blt I hg hm boot_enumerate (PyProof.Rows.callWith_type1 (thn (ha.run pos pins s σ H _ I hh) fun us s1 ⟨vs, H1, I1, r1, q1⟩ => ?_) hs rfl))⟩
  obtain ⟨a, xs, ex, q1⟩ := q1
  subst ex
  cases r1 with
  | cons r rr =>
    cases rr
    cases r
    have fpk : ∀ b ∈ [s1.heap.objs.size + 1, s1.heap.objs.size], FpOk X pins H1 b := fun b hb => by
      have zz : b = s1.heap.objs.size + 1 ∨ b = s1.heap.objs.size := by simpa using hb
      have le : s1.heap.objs.size ≤ b := by omega
      exact I1.fpOk le (I1.hok.fresh le)
    rcases q1 with ⟨sq, q⟩ | ⟨sq, q⟩
    · obtain ⟨its, rv, p', _⟩ := I1.list sq
      refine call_enumerate_list p'.isList fun h' en hit hsz hk => wpAny_pyIter_enum en ?_
      exact ⟨s1.heap.objs.size + 1, [s1.heap.objs.size + 1, s1.heap.objs.size], _, _, H1, rfl, I1.kept (t' := s1.toks) hk, turn_enumB a (s1.heap.objs.size + 1) s1.heap.objs.size, ⟨⟨.none, en⟩, hit, Nat.succ_ne_self _⟩, fpk, q⟩
    · obtain ⟨its, rv, p', _⟩ := I1.tuple sq
      have la : a < s1.heap.objs.size := by obtain ⟨_, z, _⟩ := p'; exact Heap.lt_size z
      refine call_enumB1 (begins_tuple a its.toArray) p' fun h' en hit hsz hk => wpAny_pyIter_enum en ?_
      exact ⟨s1.heap.objs.size + 1, [s1.heap.objs.size + 1, s1.heap.objs.size], _, _, H1, rfl, I1.kept (t' := s1.toks) hk, turn_enumT a (s1.heap.objs.size + 1) s1.heap.objs.size, ⟨⟨.none, en⟩, ⟨_, hit, rfl, rfl⟩, Nat.succ_ne_self _, Nat.ne_of_lt la, Nat.ne_of_lt (Nat.lt_succ_of_lt la)⟩, fpk, q⟩
section
variable {X : Cx} {Δ : DS} {M : Store} {e : Expr} {elts : List Expr} {kk : Nat} {tpos p pos : Pos} {ka : AK}
theorem rep_enumT {K : PySem.W.Frag} {F H : Hp} {q : Addr} {vs : List V} {ds : List D} (hq : SqU K F q vs) (il : IsL K F ds vs) : ItRep K (IteTB K q) (enumD ds) F M H where
  go := fun i F' M' H' st ok hi => ⟨vs, vs[i]'(by rw [← il.length, ← enumD_len]; exact hi), ok.sqT (sqT_mono st.ext hq), List.getElem?_eq_getElem _⟩
  yld := fun i F' M' H' v H2 st ok hi y => by
    obtain ⟨T, ob, _, rfl, hT, hd, rfl, u, rfl, y⟩ := y
    obtain ⟨d, h1, h2⟩ := (il.mono st.ext).get' (y vs (ok.sqT (sqT_mono st.ext hq)))
    have n := pair_new ok (is_int.2 rfl : Is K F' (.int (i : Nat)) _) h2 hT hd
    exact ⟨_, _, enumD_get h1, n.1, n.2.1, n.2.2⟩
  stop := fun F' M' H' st ok => ⟨vs, ok.sqT (sqT_mono st.ext hq), by rw [enumD_len, il.length]⟩
def seqAny : D → Option (List D)
  | .lst ds => some ds | .frl ds => some ds | .tup ds => some ds
  | _ => none
theorem it_enumA (hg : Gl X "enumerate") (hm : X.mg "enumerate" = none) (h : EvD X e Δ M fun d M1 => ∃ ds, seqAny d = some ds ∧ ka (enumD ds) M1) (hs : starEach [e] X.env = [(false, eval e X.env)] := by rfl) : ItD X (.Tuple elts kk tpos) (.Call (.Name "enumerate" p) [e] [] pos) Δ M ka := fun F H σ R hS ok post =>
  semI_of (pi_enumA hg hm (pa_cons pe_sem pa_nil hs) hs) (h F H σ _ hS ok fun d M1 F1 H1 v ⟨ds, ed, hk⟩ st ok1 i => by
    unfold seqAny at ed
    split at ed
    · cases ed
      obtain ⟨q, vs, e, hq, il⟩ := is_lst.1 i
      subst e
      exact ⟨q, vs, rfl, .inl ⟨SqL.of (ok1.lst hq), post _ M1 F1 H1 _ hk st ok1 (rep_enum (SqL.of hq) il)⟩⟩
    · cases ed
      obtain ⟨q, vs, e, hq, il⟩ := is_frl.1 i
      subst e
      exact ⟨q, vs, rfl, .inl ⟨ok1.sqL hq, post _ M1 F1 H1 _ hk st ok1 (rep_enum hq il)⟩⟩
    · cases ed
      obtain ⟨q, vs, e, hq, il⟩ := is_tup.1 i
      subst e
      exact ⟨q, vs, rfl, .inr ⟨ok1.sqT hq, post _ M1 F1 H1 _ hk st ok1 (rep_enumT hq il)⟩⟩
    · cases ed)
end
end DL
end
section
set_option Elab.async false
set_option linter.all false
set_option maxRecDepth 100000
/-! DL: x * n of a text -/
namespace DL
open PySem PySem.Spec PyProof.Rows L2
def strRep (z : Str) (n : Int) : Str := if n < 1 then Str.empty else if (n == 1 || z.length == 0) = true then z else ⟨(List.replicate n.toNat z.cps).foldl (· ++ ·) #[]⟩
theorem foldl_size (c : Array Nat) : ∀ (m : Nat) (a : Array Nat), ((List.replicate m c).foldl (· ++ ·) a).size = a.size + m * c.size
  | 0, a => by simp
  | m + 1, a => by
    rw [List.replicate_succ, List.foldl_cons, foldl_size c m, Array.size_append, Nat.succ_mul]
    omega
def rRepS : R2 := fun x y H Q => ∃ z k, x = .str z ∧ y = .int k ∧ k ≤ 1000 ∧ -1000 ≤ k ∧ z.length ≤ 1000 ∧ Q (.str (strRep z k)) H
section
variable {X : Cx}
theorem op_repS : OpR X (binaryOp .Mult) rRepS := by
  intro pins s σ H x y v u Q I rx ry h
  obtain ⟨z, k, rfl, rfl, h1, h0, h2, q⟩ := h
  obtain ⟨t, rfl⟩ := rx
  obtain ⟨t2, rfl⟩ := ry
  have hlim : z.length * k.toNat ≤ 1000 * 1000 := Nat.mul_le_mul h2 (by omega)
  have lz : z.length = z.cps.size := rfl
  refine PySem.P.mul_str ?_ ?_ ?_ ?_
  · have a1 : ¬ k < -(2 ^ 63) := by omega
    have a2 : ¬ k ≥ 2 ^ 63 := by omega
    rw [decide_eq_false a1, decide_eq_false a2]; rfl
  · intro a1 _ a2
    have : 1000 ≤ (2 ^ 63 - 1) / k := (Int.le_ediv_iff_mul_le (by omega)).mpr (by omega)
    omega
  · intro a1 _
    show decide _ = false
    rw [decide_eq_false_iff_not]
    have : sizeLine ≥ 1000000 := by rw [sizeLine_eq]; decide
    omega
  · unfold strRep at q
    by_cases c1 : k < 1
    · rw [if_pos c1] at q ⊢
      exact ⟨by decide, .str _, H, I.tok _, ⟨_, rfl⟩, q⟩
    · rw [if_neg c1] at q ⊢
      by_cases c2 : (k == 1 || z.length == 0) = true
      · rw [if_pos c2] at q ⊢
        exact ⟨.str _, H, I, ⟨_, rfl⟩, q⟩
      · rw [if_neg c2] at q ⊢
        refine ⟨?_, .str _, H, I.tok _, ⟨_, rfl⟩, q⟩
        show Array.size _ ≤ _
        rw [foldl_size, Array.size_empty, Nat.zero_add, Nat.mul_comm, ← lz]
        have : sizeLine ≥ 1000000 := by rw [sizeLine_eq]; decide
        omega
variable {a b : Expr} {Δ : DS} {M : Store} {k : DK} {pos : Pos}
def smulO : D → D → Option D
  | .str z, .int j => if z.length ≤ 1000 ∧ j ≤ 1000 ∧ -1000 ≤ j then some (.str (strRep z j)) else none
  | _, _ => none
theorem ev_smul (h : EvD X a Δ M fun d1 M1 => EvD X b Δ M1 fun d2 M2 => ∃ r, smulO d1 d2 = some r ∧ k r M2) : EvD X (.BinOp a .Mult b pos) Δ M k :=
  ev_op2 op_repS (h.mono fun _ _ q => q.mono fun d1 M1 ⟨r, h1, h2⟩ => fun F H x y Q ok i1 i2 post => by
    unfold smulO at h1
    split at h1
    · split at h1
      · rename_i c
        cases h1
        exact ⟨_, _, is_str.1 i1, is_int.1 i2, c.2.1, c.2.2, c.1, post.here ok h2 (is_str.2 rfl)⟩
      · cases h1
    · cases h1)
end
end DL
end
section
set_option Elab.async false
set_option linter.all false
set_option maxRecDepth 100000
/-! DP: dicts -/
namespace DL
open PySem L2
theorem keyOf_rn {ρ : Nat → Addr} {d : D} {c : Key} (h : keyOf d = some c) : rn ρ d = d := by
  unfold keyOf at h
  split at h
  · exact rn_int _
  · exact rn_str _
  · cases h
theorem valD_rn {ρ : Nat → Addr} {q : Key} : ∀ {ks : List Key} {ds : List D}, valD ks (rnL ρ ds) q = (valD ks ds q).map (rn ρ)
  | [], [] => by unfold rnL valD; rfl
  | [], _ :: _ => by unfold rnL valD; rfl
  | _ :: _, [] => by unfold rnL valD; rfl
  | c :: ks, d :: ds => by
    unfold rnL valD
    by_cases h : c = q
    · rw [if_pos h, if_pos h]; rfl
    · rw [if_neg h, if_neg h]; exact valD_rn
section
variable {γ : Nat → Addr} {X : Cx} {a c e e2 o tg : Expr} {es rest : List Expr} {pos p apos : Pos} {x : Str} {s t r : SE}
def dctOf : D → Option (List Key × List D)
  | .dct ks ds => some (ks, ds)
  | _ => none
theorem dctOf_is {d : D} {p : List Key × List D} (h : dctOf d = some p) : d = .dct p.1 p.2 := by
  unfold dctOf at h
  split at h
  · cases h; rfl
  · cases h
def cGet (s t r : SE) : SE := fun Δ => (s Δ).bind fun d => (ofO (dctOf d)).bind fun q => (t Δ).bind fun y => (ofO (keyOf y)).bind fun c => (r Δ).bind fun z => .ret ((valD q.1 q.2 c).getD z)
theorem i_get2 (hu : X.A.units + 64 < cLine) (ho : IE γ X o s) (he : IE γ X e t) (h2 : IE γ X e2 r) (m : M2 X o "get" apos e e2 pos := by exact ⟨rfl, rfl, rfl, rfl⟩) : IE γ X (.Call (.Attribute o "get" apos) [e, e2] [] pos) (cGet s t r) := .mk fun b u M0 Δ Δr M n k S w => by
  refine ev_get2 (by omega) (ho.go b u M0 Δ Δr M n _ S ((wpB_bind.1 w).mono fun d n1 w1 M1 A1 => ?_)) m
  obtain ⟨⟨ks, ds⟩, h1, w1a⟩ := wpB_ofO (wpB_bind.1 w1)
  have hd := dctOf_is h1
  subst hd
  refine ⟨ks, rnL (rho γ u) ds, rn_dct _ _, he.go b u M0 Δ Δr M1 n1 _ (S.aft A1) ((wpB_bind.1 w1a).mono fun y n2 w2 M2 A2 => ?_)⟩
  obtain ⟨c, hk, w2⟩ := wpB_ofO (wpB_bind.1 w2)
  refine ⟨c, by rw [keyOf_rn hk]; exact hk, h2.go b u M0 Δ Δr M2 n2 _ ((S.aft A1).aft A2) ((wpB_bind.1 w2).mono fun z n3 w3 M3 A3 => ?_)⟩
  have w4 := w3 M3 ((A1.trans A2).trans A3)
  rw [valD_rn]
  cases hv : valD ks ds c with
  | none => simp only [hv] at w4; exact w4
  | some q => simp only [hv] at w4; exact w4
/-! enumerate of any sequence -/
def aEnumA (s : SE) : SA := fun Δ => (s Δ).bind fun d => (ofO (seqAny d)).bind fun ds => .ret (enumD ds)
theorem seqAny_rn {ρ : Nat → Addr} {d : D} {ds : List D} (h : seqAny d = some ds) : seqAny (rn ρ d) = some (rnL ρ ds) := by
  unfold seqAny at h
  split at h
  · cases h; rw [rn_lst]; rfl
  · cases h; rw [rn_frl]; rfl
  · cases h; rw [rn_tup]; rfl
  · cases h
theorem n_enumA {elts : List Expr} {kk : Nat} {tpos : Pos} (hg : Gl X "enumerate") (hm : X.mg "enumerate" = none) (h : IE γ X e s) (hs : starEach [e] X.env = [(false, eval e X.env)] := by rfl) : II γ X (.Tuple elts kk tpos) (.Call (.Name "enumerate" p) [e] [] pos) (aEnumA s) := .mk fun b u M0 Δ Δr M n k S w =>
  it_enumA hg hm (h.go b u M0 Δ Δr M n _ S ((wpB_bind.1 w).mono fun d n1 w1 M1 A1 => by
    obtain ⟨ds, h1, w1⟩ := wpB_ofO (wpB_bind.1 w1)
    have hk := w1 M1 A1
    rw [rn_enum] at hk
    exact ⟨_, seqAny_rn h1, hk⟩)) hs
/-! t[:-1].count(x) -/
theorem i_smul (ha : IE γ X a s) (hc : IE γ X c t) : IE γ X (.BinOp a .Mult c pos) (c2 smulO s t) := i_two (PP := fun d1 d2 M2 k => ∃ r, smulO d1 d2 = some r ∧ k r M2) (fun _ _ _ h => ev_smul h) (fun ρ x y d M k h hk => by
  unfold smulO at h
  split at h
  · split at h
    · rename_i cc
      cases h
      rw [rn_str] at *
      rw [rn_int]
      exact ⟨_, if_pos cc, hk⟩
    · cases h
  · cases h) ha hc
/-! ### dict comprehensions -/
theorem dputD_rn {ρ : Nat → Addr} (ks : List Key) (ds : List D) (k : Key) (r : D) : dputD ks (rnL ρ ds) k (rn ρ r) = ((dputD ks ds k r).1, rnL ρ (dputD ks ds k r).2) := by
  unfold dputD
  split
  · rw [rnL_map, rnL_map, List.map_map, List.zip_map_right, List.map_map]
    congr 1
    apply List.map_congr_left
    intro q _
    show (if q.1 = k then rn ρ r else rn ρ q.2) = rn ρ (if q.1 = k then r else q.2)
    split <;> rfl
  · rw [rnL_app]
    simp only [rnL]
end
end DL
end
section
set_option Elab.async false
set_option linter.all false
set_option maxRecDepth 100000
/-! DP: more rules -/
namespace DL
open PySem L2
/-- lists that can be joined (not those of the script) -/
def cl1 (M : Store) : D → Option (List D)
  | .lst ds => some ds
  | .cell a => match M a with
    | some (.lst ds) => some ds
    | _ => none
  | _ => none
theorem cl_of {M : Store} {K : PySem.W.Frag} {F H : Hp} (ok : Ok K F M H) {d : D} {ds : List D} {v : V} (h : cl1 M d = some ds) (i : Is K F d v) : ∃ a vs, v = .ref a ∧ H a = some (.lst vs) ∧ IsL K F ds vs := by
  unfold cl1 at h
  split at h
  · cases h; obtain ⟨a, vs, e, h1, h2⟩ := is_lst.1 i; exact ⟨a, vs, e, ok.lst h1, h2⟩
  · rename_i a
    split at h
    · rename_i m xs e
      cases h
      obtain ⟨_, o, h1, vs, h2, h3⟩ := ok.mem a _ e
      subst h2
      exact ⟨a, vs, is_cell.1 i, h1, h3⟩
    · cases h
  · cases h
section
variable {γ : Nat → Addr} {X : Cx} {a c e tg : Expr} {pos : Pos} {s t : SE} {Δ : DS} {M : Store}
theorem el_cat {ka : AK} (h : EvD X a Δ M fun d1 M1 => EvD X c Δ M1 fun d2 M2 => ∃ xs ys, cl1 M2 d1 = some xs ∧ cl1 M2 d2 = some ys ∧ xs.length + ys.length ≤ sizeLine ∧ ka (xs ++ ys) M2) : EvL X (.BinOp a .Add c pos) Δ M ka := fun F H σ Q hs ok post =>
  sem_of (pe_op op_cat pe_sem pe_sem) (two h hs ok fun d1 d2 M' F' H' x y ⟨xs, ys, h1, h2, hl, hk⟩ st ok' i1 i2 => by
    obtain ⟨p, vs, e1, q1, l1⟩ := cl_of ok' h1 i1
    obtain ⟨q, ws, e2, q2, l2⟩ := cl_of ok' h2 i2
    exact ⟨p, q, vs, ws, e1, e2, q1, q2, by rw [← l1.length, ← l2.length]; exact hl, fun r hr => post.new st ok' hk hr (l1.app l2)⟩)
def lstV : D → Option (List D)
  | .lst ds => some ds
  | _ => none
theorem vw_cl {ρ : Nat → Addr} {b : Bool} {M : Store} {d dr : D} {ds : List D} (h : lstV d = some ds) (v : Vw ρ b M d dr) : cl1 M dr = some (rnL ρ ds) := by
  unfold lstV at h
  split at h
  · cases h
    rcases v with rfl | ⟨q, es, rfl, e, h2, _⟩
    · rw [rn_lst]; rfl
    · cases e; simp only [cl1, h2]
  · cases h
def aAdd (s t : SE) : SA := fun Δ => (s Δ).bind fun x => (t Δ).bind fun y => (ofO (lstV x)).bind fun xs => (ofO (lstV y)).bind fun ys => if xs.length + ys.length ≤ lim then .ret (xs ++ ys) else .fail
theorem l_add (ha : IV γ X a s) (hc : IV γ X c t) : IL γ X (.BinOp a .Add c pos) (aAdd s t) := .mk fun b u M0 Δ Δr M n k S w =>
  el_cat (ha.go b u M0 Δ Δr M n _ S ((wpB_bind.1 w).mono fun x n1 w1 M1 xr A1 V1 => hc.go b u M0 Δ Δr M1 n1 _ (S.aft A1) ((wpB_bind.1 w1).mono fun y n2 w2 M2 yr A2 V2 => by
    obtain ⟨xs, h1, w2⟩ := wpB_ofO (wpB_bind.1 w2)
    obtain ⟨ys, h2, w2⟩ := wpB_ofO (wpB_bind.1 w2)
    split at w2
    · rename_i hl
      have hk := w2 M2 (A1.trans A2)
      rw [rnL_app] at hk
      exact ⟨_, _, vw_cl h1 (V1.keep A2.keep), vw_cl h2 V2, by rw [lim_eq, rnL_len, rnL_len]; exact hl, hk⟩
    · exact w2.elim)))
end
end DL
end
section
set_option Elab.async false
set_option linter.all false
set_option maxRecDepth 100000
/-! DL: texts taken apart, starred items, values of dicts -/
namespace DL
open PySem L2
section
variable {X : Cx} {a b c e o tg : Expr} {es : List Expr} {pos apos p cpos : Pos} {Δ : DS} {M : Store} {k : DK}
/-- a starred item -/
theorem ea_star {ka : AK} (h : EvD X e Δ M fun d M1 => ∃ xs, seqD M1 d = some xs ∧ EvA X es Δ M1 fun ds M2 => ka (xs ++ ds) M2) (hs : starEach (.Starred e p :: es) X.env = (true, eval e X.env) :: starEach es X.env := by rfl) : EvA X (.Starred e p :: es) Δ M ka := fun F H σ Q hS ok post =>
  semA_of (StX.pa_star pe_sem pa_sem hs) (h F H σ _ hS ok fun d M1 F1 H1 v ⟨xs, hx, q⟩ st1 ok1 i1 => by
    obtain ⟨l, vs, e, hq, hl⟩ := seq_of ok1 hx i1
    refine ⟨l, vs, e, hq.symm, q F1 H1 σ _ (hS.mono st1.ext) ok1 fun ds M2 F2 H2 ws q2 st2 ok2 i2 => ?_⟩
    exact post (xs ++ ds) M2 F2 H2 (vs ++ ws) q2 (st1.trans st2) ok2 ((hl.mono st2.ext).app i2))
end
end DL
end
section
set_option Elab.async false
set_option linter.all false
set_option maxRecDepth 100000
/-! DP: texts taken apart, starred items, values of dicts -/
namespace DL
open PySem L2
section
variable {γ : Nat → Addr} {X : Cx} {a c e o tg : Expr} {es : List Expr} {pos apos p cpos : Pos} {s t : SE} {A : SA}
def aStar (s : SE) (t : SA) : SA := fun Δ => (s Δ).bind fun d => (ofO (seqV d)).bind fun xs => (t Δ).bind fun ds => .ret (xs ++ ds)
theorem a_star (h : IV γ X e s) (ht : IA γ X es A) (hs : starEach (.Starred e p :: es) X.env = (true, eval e X.env) :: starEach es X.env := by rfl) : IA γ X (.Starred e p :: es) (aStar s A) := .mk fun b u M0 Δ Δr M n k S w =>
  ea_star (h.go b u M0 Δ Δr M n _ S ((wpB_bind.1 w).mono fun d n1 w1 M1 dr A1 V1 => by
    obtain ⟨xs, h1, w1⟩ := wpB_ofO (wpB_bind.1 w1)
    refine ⟨_, vw_seq h1 V1, ht.go b u M0 Δ Δr M1 n1 _ (S.aft A1) ((wpB_bind.1 w1).mono fun ds n2 w2 M2 A2 => ?_)⟩
    have hk := w2 M2 (A1.trans A2)
    rw [rnL_app] at hk
    exact hk)) hs
end
end DL
end
section
set_option Elab.async false
set_option linter.all false
set_option maxRecDepth 100000
/-! DL: static methods; tuples of the module's top -/
namespace DL
open PySem L2
section
variable {X : Cx} {pins : List (Addr × Obj)} {σ : L2.St} {H : Hp} {s : Shared} {C q g : Addr} {mc : Value} {m : Str} {A : Around} {E : Value → Shared → Prop}
theorem getsmeth_ok {pl : PySem.Sem Bool} {Q : Value × List Value → Shared → Prop} (I : Inv X pins σ H s) (r : ClX.CRead X.K C mc) (k : SMet X.K C mc m q g)
    (h : ∀ s', Inv X pins σ H s' → Q (.ref g, []) s') : wpAny (model X.prog X.w) A (getMethod (.ref C) m pl) Q E s := by
  obtain ⟨rest, hp⟩ := k.rc
  refine PySem.W.method_cls I.kIn r.ga ?_
  refine PySem.W.cls_bind I.kIn r.rd k.at_ ?_
  exact wpAny_call (PySem.W.sm_get (s := { s with toks := s.toks + 1 }) I.kIn hp (PySem.W.handed_on rfl (h _ (I.tok _))))
end
section
variable {X : Cx} {k : Nat} {C q g : Addr} {fd : FuncData} {ps : List Str} {mc : Value} {sp : Sp} {E : XK} {m : Str} {e o : Expr} {es : List Expr} {ta : TE} {t : TA} {pos apos : Pos} {dvs : List V} {ds : List Value} {pl : PySem.Sem Bool}
def tSMeth (C : Addr) (sp : Sp) (dvs : List V) (E : XK) (ta : TE) (t : TA) : TE := fun σ H Q => ta σ H fun x H1 => x = .ref C ∧ tCall sp dvs E t σ H1 Q
theorem pe_smeth (he : PE X o ta) (r : ClX.CRead X.K C mc) (c : SMet X.K C mc m q g) (F : FnOk X.prog X.w X.K X.mg X.base CX0 k g fd ps sp) (hr : Room k X.A) (hk : PySem.W.keepIn X.K (.ref g) = true) (hb : Binds X.K fd ps ds) (hd : Vals dvs ds) (hx : Passes CX0 X E) (ha : PA X (e :: es) t)
    (hst : starEach (e :: es) X.env = (false, eval e X.env) :: starEach es X.env := by rfl) (hpl : (backTo pos (starEach es X.env)).any (·.1) = false := by rfl)
    (ht : eval (.Call (.Attribute o m apos) (e :: es) [] pos) X.env = (do
      let ov ← eval o X.env
      standAt apos.atName
      let (f, first) ← holding [ov] (getMethod ov m pl)
      callWith pos f first (backTo pos (starEach (e :: es) X.env)) (backToKw pos (keywordEach [] X.env))) := by rfl) :
    PE X (.Call (.Attribute o m apos) (e :: es) [] pos) (tSMeth C sp dvs E ta t) := by
  refine ⟨fun pins s σ H Q I h => ?_⟩
  refine PySem.W.methodCall_KW (pl := pl) (thn (he.run pins s σ H _ I h) fun u s1 ⟨x, H1, I1, rx, ex, q⟩ => ?_) ht
  subst ex
  obtain rfl : u = Value.ref C := rx
  refine getsmeth_ok I1 r c fun s2 I2 => ?_
  refine PySem.W.callWith_K (h₀ := X.base) I2.ok.mod.kin hk (thn (ha.run pos pins s2 σ H1 _ I2 q) fun us s3 ⟨vs, H2, I3, rv, q2⟩ => ⟨I3.kIn, ?_⟩) hst hpl
  exact run_fn F hr hb hd hx I3 rv q2
end
/-- a staticmethod that can be called -/
structure StaD (P : Program) (w : World) (K : PySem.W.Frag) (mg : Str → Option Value) (base : Heap) (C : Addr) (m : Str) (n : Nat) (sp : SpD) : Prop where
  ex : ∃ f fd ps q, FnOk P w K mg base CX0 n f fd ps (spOf K sp) ∧ ClX.CRead K C (.type "type") ∧ SMet K C (.type "type") m q f ∧ PySem.W.keepIn K (.ref f) = true ∧ Binds K fd ps []
section
variable {X : Cx} {e o : Expr} {es : List Expr} {Δ : DS} {M : Store} {k : DK} {p pos apos : Pos} {x m : Str} {C : Addr} {pl : PySem.Sem Bool}
theorem ev_smeth {n : Nat} {sp : SpD} (S : StaD X.prog X.w X.K X.mg X.base C m n sp) (hr : Room n X.A) (h : EvD X o Δ M fun d M1 => d = .cell C ∧ EvA X (e :: es) Δ M1 fun ds M2 => sp ds M2 k)
    (hst : starEach (e :: es) X.env = (false, eval e X.env) :: starEach es X.env := by rfl) (hpl : (backTo pos (starEach es X.env)).any (·.1) = false := by rfl)
    (ht : eval (.Call (.Attribute o m apos) (e :: es) [] pos) X.env = (do
      let ov ← eval o X.env
      standAt apos.atName
      let (f, first) ← holding [ov] (getMethod ov m pl)
      callWith pos f first (backTo pos (starEach (e :: es) X.env)) (backToKw pos (keywordEach [] X.env))) := by rfl) : EvD X (.Call (.Attribute o m apos) (e :: es) [] pos) Δ M k := fun F H σ Q hS ok post => by
  obtain ⟨f, fd, ps, q, hF, hc, hm, hk, hb⟩ := S.ex
  refine sem_of (pe_smeth (E := E0) (pl := pl) pe_sem hc hm hF hr hk hb .nil pass0 pa_sem hst hpl ht) (h F H σ _ hS ok fun d M1 F1 H1 v ⟨ed, ha⟩ st ok1 i => ?_)
  subst ed
  refine ⟨is_cell.1 i, ha F1 H1 σ _ (hS.mono st.ext) ok1 fun ds M2 F2 H2 vs q st2 ok2 il => ?_⟩
  rw [List.append_nil]
  exact ⟨ds, F2, M2, k, il, ok2, q, post.step (st.trans st2)⟩
end
end DL
end
section
set_option Elab.async false
set_option linter.all false
set_option maxRecDepth 100000
/-! DP: static methods, tuples of the module's top, extend -/
namespace DL
open PySem L2
section
variable {X : Cx} {a b c e o tg : Expr} {es : List Expr} {pos apos p cpos : Pos} {Δ : DS} {M : Store} {k : DK}
theorem ev_extend (h : EvD X o Δ M fun d M1 => ∃ q ds0, d = .cell q ∧ M1 q = some (.lst ds0) ∧ EvD X e Δ M1 fun y M2 => ∃ ds zs, M2 q = some (.lst ds) ∧ cl1 M2 y = some zs ∧ ds.length + zs.length ≤ sizeLine ∧ k .non (mup M2 q (.lst (ds ++ zs))))
    (hbase : attributeBase o "extend" X.env (eval o X.env) = eval o X.env := by rfl) (hfew : FewOk X pos [e] := by rfl) (hline : (apos.endLine == pos.line) = true := by rfl) (hs : starEach [e] X.env = [(false, eval e X.env)] := by rfl) :
    EvD X (.Call (.Attribute o "extend" apos) [e] [] pos) Δ M k := fun F H σ Q hS ok post => by
  refine sem_of (pe_bm PySem.F.plainAttrs_list PySem.F.slot_list_extend PySem.F.type_list_extend mt_extend pe_sem (pa_cons pe_sem pa_nil hs) hbase hfew hline hs rfl) ?_
  refine h F H σ _ hS ok fun d M1 F1 H1 v ⟨q, ds0, ed, hm, h2⟩ st ok1 i => ?_
  subst ed
  obtain ⟨vs0, hq0, _⟩ := cell_of ok1 hm
  rw [is_cell.1 i]
  refine ⟨.inl ⟨rfl, _, SqL.of hq0⟩, h2 F1 H1 σ _ (hS.mono st.ext) ok1 fun y M2 F2 H2 u ⟨ds, zs, hm2, hz, hl, hk⟩ st2 ok2 iu => ?_⟩
  obtain ⟨vs, hq, il⟩ := cell_of ok2 hm2
  obtain ⟨r, ws, rfl, hw, iw⟩ := cl_of ok2 hz iu
  exact ⟨q, r, vs, ws, rfl, rfl, hq, hw, by rw [← il.length, ← iw.length]; exact hl, (post.step (st.trans st2)).cell ok2 hm2 (il.app iw) hk (is_non.2 rfl)⟩
end
section
variable {γ : Nat → Addr} {X : Cx} {a c e o tg : Expr} {es : List Expr} {pos apos p cpos : Pos} {x m : Str} {s t : SE} {A : SA}
def xExt (i : Nat) (s : SE) : SX := fun Δ => (ofO (ownL Δ i)).bind fun _ => (s Δ).bind fun y => (ofO (lstV y)).bind fun zs => (ofO (ownL Δ i)).bind fun ds => if ds.length + zs.length ≤ lim then .ret (.non, Δ.set i (.o (.lst (ds ++ zs)))) else .fail
theorem x_ext {i : Nat} {px : Pos} (hN : X.N[i]? = some x) (hv : Vis X.env.scope x) (hd : (x == ("__debug__" : Str)) = false) (hcd : (x == ("__classdict__" : Str)) = false) (h : IE γ X e s)
    (hbase : attributeBase (.Name x px) "extend" X.env (eval (.Name x px) X.env) = eval (.Name x px) X.env := by rfl) (hfew : FewOk X pos [e] := by rfl) (hline : (apos.endLine == pos.line) = true := by rfl) (hs : starEach [e] X.env = [(false, eval e X.env)] := by rfl) :
    IX γ X (.Call (.Attribute (.Name x px) "extend" apos) [e] [] pos) (xExt i s) := .mk fun b u M0 Δ Δr M n k S w => by
  obtain ⟨ds0, h0, w1⟩ := wpB_ofO (wpB_bind.1 w)
  obtain ⟨q, hq, hM⟩ := S.own (ownL_is h0)
  refine ev_extend (ev_var hN hv hd hcd hq ⟨q, _, rfl, hM, h.go b u M0 Δ Δr M n _ S ((wpB_bind.1 w1).mono fun y n1 w2 M1 A1 => ?_)⟩) hbase hfew hline hs
  obtain ⟨zs, hz, w2a⟩ := wpB_ofO (wpB_bind.1 w2)
  obtain ⟨ds, h1, w3⟩ := wpB_ofO (wpB_bind.1 w2a)
  split at w3
  · rename_i hl
    have S1 := S.aft A1
    obtain ⟨q', hq', hM'⟩ := S1.own (ownL_is h1)
    rw [hq] at hq'
    cases hq'
    refine ⟨_, _, hM', vw_cl (b := b) hz (.inl rfl), by rw [lim_eq, rnL_len, rnL_len]; exact hl, ?_⟩
    have S2 := S1.upd (m' := .lst (ds ++ zs)) (ownL_is h1) hq
    have w4 := w3 _ S2
    rw [rn_non] at w4
    have e : rnM (rho γ u) (.lst (ds ++ zs)) = .lst (rnL (rho γ u) ds ++ rnL (rho γ u) zs) := by
      show MO.lst _ = _
      rw [rnL_app]
    rw [e] at w4
    exact w4
  · exact w3.elim
/-- Class.method(..), a staticmethod -/
theorem i_static {n c0 : Nat} {F : List D → Pg D} {pn : Pos} {pl : PySem.Sem Bool} (S : StaD X.prog X.w X.K X.mg X.base (γ c0) m n (spW γ [] F)) (hr : Room n X.A) (hm : X.mg x = some (.ref (γ c0))) (hg : Gl X x) (h : IAW γ X [] (e :: es) A) (hd : (x == ("__debug__" : Str)) = false := by decide)
    (hst : starEach (e :: es) X.env = (false, eval e X.env) :: starEach es X.env := by rfl) (hpl : (backTo pos (starEach es X.env)).any (·.1) = false := by rfl)
    (ht : eval (.Call (.Attribute (.Name x pn) m apos) (e :: es) [] pos) X.env = (do
      let ov ← eval (.Name x pn) X.env
      standAt apos.atName
      let (f, first) ← holding [ov] (getMethod ov m pl)
      callWith pos f first (backTo pos (starEach (e :: es) X.env)) (backToKw pos (keywordEach [] X.env))) := by rfl) : IE γ X (.Call (.Attribute (.Name x pn) m apos) (e :: es) [] pos) (cCall F A) := .mk fun b u M0 Δ Δr M n k S0 w =>
  ev_smeth (pl := pl) S hr (ev_gC hm hg ⟨rfl, h.go b u M0 Δ Δr M n _ S0 ((wpB_bind.1 w).mono fun ds n1 w1 M1 drs A1 V => ⟨b, u, ds, n1, V, A1.urn, w1.mono fun d n2 q M2 A2 => q M2 (A1.trans A2)⟩)⟩ hd) hst hpl ht
end
end DL
end
section
set_option Elab.async false
set_option linter.all false
set_option maxRecDepth 100000
set_option maxHeartbeats 1000000
/-! zip of any two iterators, as what dict() takes -/
namespace DL
open PySem
theorem ne2 {a b x y : Addr} (h : b = x ∨ b = y) (n1 : x ≠ a) (n2 : y ≠ a) : b ≠ a := h.elim (fun e => by rw [e]; exact n1) fun e => by rw [e]; exact n2
/-- an iterator over the items xs, at it, of what lies at l -/
structure Src (pr : Program) (w : World) (it l : Addr) (xs : Array Value) (P : Nat → Heap → Prop) : Prop where
  keep : ∀ {k : Nat} {h h' : Heap}, P k h → (∀ b o, b = it ∨ b = l → h.get? b = some o → h'.get? b = some o) → P k h'
  there : ∀ {k : Nat} {h : Heap}, P k h → (∃ o, h.get? it = some o) ∧ ∃ o, h.get? l = some o
  next : ∀ {A : Around} {s : Shared} {Q : Value → Shared → Prop} {E : Value → Shared → Prop} {k : Nat} {x : Value}, P k s.heap → xs[k]? = some x → (∀ g, P (k + 1) g → Heap.SameBut it s.heap g → Q x { s with heap := g }) → wpAny (model pr w) A (Builtin.SmallTypes.nextOf (.ref it)) Q E s
  stop : ∀ {A : Around} {s : Shared} {Q : Value → Shared → Prop} {E : Value → Shared → Prop} {k : Nat}, A.handled = none → P k s.heap → xs[k]? = none → (∀ g e, Heap.ExtBut it s.heap g → (∃ o, g.get? e = some o ∧ o.cls = .type "StopIteration") → E (.ref e) { s with heap := g }) → wpAny (model pr w) A (Builtin.SmallTypes.nextOf (.ref it)) Q E s
section
variable {pr : Program} {w : World} {A : Around} {E : Value → Shared → Prop} {s : Shared} {zz TI TO i1 i2 l1 l2 : Addr} {k1 k2 : Nat} {xs ys : Array Value} {P1 P2 : Nat → Heap → Prop}
theorem Src.step {it l a : Addr} {xs : Array Value} {P : Nat → Heap → Prop} (S : Src pr w it l xs P) {k : Nat} {h h' : Heap} (p : P k h) (sb : Heap.SameBut a h h') (n1 : it ≠ a) (n2 : l ≠ a) : P k h' :=
  S.keep p fun b o hb e => sb.extBut b o (ne2 hb n1 n2) e
theorem Src.push {it l : Addr} {xs : Array Value} {P : Nat → Heap → Prop} (S : Src pr w it l xs P) {k : Nat} {h : Heap} {o : Obj} (p : P k h) : P k (h.push o) := S.keep p fun b o hb e => Heap.get?_push_of_some _ e
end
/-! the zip of a list and a tuple -/
end DL
end
section
set_option Elab.async false
set_option linter.all false
set_option maxRecDepth 100000
set_option maxHeartbeats 4000000
namespace DSet
open PySem PySem.Spec PyProof.Rows L2
section
variable {P : Program} {w : World} {A : Around} {E : Value → Shared → Prop} {s : Shared} {a : Addr} {L : List (Addr × List Key)} {es : Array (Int × Value)} {ep : Nat} {t : SetTable}
theorem ST2.keep {h h2 : Heap} (R : ST2 P w h a L es ep t) (ha : ∀ o, h.get? a = some o → h2.get? a = some o) (ht : ∀ p ∈ L, TK2 P w h2 p.2 p.1) : ST2 P w h2 a L es ep t := by
  obtain ⟨ob, hob, r⟩ := R.at_
  exact { R with at_ := ⟨ob, ha ob hob, r⟩, tu := ht }
end
end DSet
end
section
set_option Elab.async false
set_option linter.all false
set_option maxRecDepth 100000
set_option maxHeartbeats 4000000
namespace DSet
open PySem PySem.Spec PyProof.Rows L2
section
variable {P : Program} {w : World} {A : Around} {E : Value → Shared → Prop} {s : Shared}
/-! ### set(list of tuples) -/
theorem ST2.fresh {h : Heap} {a : Addr} (ho : h.get? a = some (freshSet w)) : ST2 P w h a [] #[] 0 (.fresh 0 0 (!w.params.followText "set-order")) where
  at_ := ⟨_, ho, ⟨rfl, rfl, rfl⟩, rfl⟩
  row := rfl
  tb := ⟨List.Pairwise.nil, rfl, rfl, .inl rfl, fun x hx => (by cases hx), fun i h j hi => (by simp at hi)⟩
  dis := List.nodup_nil
  tu := fun p hp => nomatch hp
  ld := by
    show _ ∨ (!w.params.followText "set-order") = true
    cases w.params.followText "set-order"
    · exact .inr rfl
    · exact .inl rfl
  rm := show 0 * 5 < 7 * 3 by decide
  lt := show 0 < 64 by decide
/-! ### ranks -/
abbrev IK := List (Int ⊕ List Nat)
/-! ### sort of tuples of texts -/
def TxT (h : Heap) (v : Value) (xs : List Str) : Prop := ∃ b o its m, v = .ref b ∧ h.get? b = some o ∧ o.cls = .type "tuple" ∧ o.data = .seq its m ∧ StrsAre its.toList xs ∧ xs ≠ []
abbrev ikOf (xs : List Str) : IK := xs.map fun x => Sum.inr x.cps.toList
theorem items_ik : ∀ {vs : List Value} {xs : List Str} (i : Nat), StrsAre vs xs → tupItems (fun _ => true) i vs = some (ikOf xs)
  | _, _, _, .nil => rfl
  | _, _, i, .cons x t r => by
    simp only [tupItems, if_true, items_ik (i + 1) r]
    rfl
theorem TxT.key {h : Heap} {v : Value} {xs : List Str} (x : TxT h v xs) : tupKey h (fun _ => true) v = some (ikOf xs) := by
  obtain ⟨b, o, its, m, rfl, ho, hc, hd, hi, _⟩ := x
  simp only [tupKey, ho, hd, items_ik 0 hi]
theorem TxT.keep {h h2 : Heap} {v : Value} {xs : List Str} (x : TxT h v xs) (k : ∀ b o, h.get? b = some o → o.cls = .type "tuple" → h2.get? b = some o) : TxT h2 v xs := by
  obtain ⟨b, o, its, m, e, ho, hc, r⟩ := x
  exact ⟨b, o, its, m, e, k b o ho hc, hc, r⟩
abbrev kx (h : Heap) (v : Value) : IK := (tupKey h (fun _ => true) v).getD []
end
end DSet
end
section
set_option Elab.async false
set_option linter.all false
set_option maxRecDepth 100000
/-! DP: sorted, sorted(set) of tuples of texts -/
namespace DSet
open PySem PySem.Spec PyProof.Rows L2
section
variable {X : Cx}
end
end DSet
namespace DL
open PySem L2
/-! ### the order of tuples of texts -/
def lxt : List Str → List Str → Bool
  | [], [] => false
  | [], _ :: _ => true
  | _ :: _, [] => false
  | x :: r, y :: t => lts x y || (!lts y x && lxt r t)
def insX (x : List Str) : List (List Str) → List (List Str)
  | [] => [x]
  | y :: r => if lxt y x = true then y :: insX x r else x :: y :: r
def sortX : List (List Str) → List (List Str)
  | [] => []
  | x :: r => insX x (sortX r)
/-- ascending, each once -/
def dedX : List (List Str) → List (List Str)
  | [] => []
  | x :: r => if x ∈ r then dedX r else x :: dedX r
def ssX (xs : List (List Str)) : List (List Str) := sortX (dedX xs)
/-! ### rules -/
section
variable {γ : Nat → Addr} {X : Cx} {a e : Expr} {pos p : Pos} {s : SE}
end
end DL
end
section
set_option Elab.async false
set_option linter.all false
set_option maxRecDepth 100000
/-! DP: len(set(texts)), int(text), str(n), f-strings -/
namespace DSet
open PySem PySem.Spec PyProof.Rows L2
end DSet
namespace DL
open PySem L2
section
variable {γ : Nat → Addr} {X : Cx} {a e e2 : Expr} {pos p : Pos} {s t : SE} {Δ : DS} {M : Store} {k : DK}
/-! ### int(text), str(n) -/
def int2O : D → Option D
  | .int i => some (.int i)
  | .bl c => some (.int (if c then 1 else 0))
  | .str x => if x.length ≤ 640 then (PySem.intText? x).map D.int else none
  | _ => none
def IntC2 (d : D) (M : Store) (k : DK) : Prop := match d with
  | .int i => k (.int i) M
  | .bl c => k (.int (if c then 1 else 0)) M
  | .str x => ∃ n, PySem.intText? x = some n ∧ x.length ≤ 640 ∧ k (.int n) M
  | _ => False
theorem ev_intc2 (hg : Gl X "int") (hm : X.mg "int" = none) (h : EvD X e Δ M fun d M1 => IntC2 d M1 k) (hs : starEach [e] X.env = [(false, eval e X.env)] := by rfl) : EvD X (.Call (.Name "int" p) [e] [] pos) Δ M k :=
  ev_callT (call_int1.or call_int_str) hg hm (by decide +kernel) (by decide) (by decide) hs rfl (one1 (h.mono fun d M1 q F H vs Q ok i post => by
    obtain ⟨v, rfl, iv⟩ := isL1 i
    unfold IntC2 at q
    split at q
    · exact .inl (.inl ⟨_, by rw [is_int.1 iv], post.here ok q (is_int.2 rfl)⟩)
    · exact .inl (.inr ⟨_, by rw [is_bl.1 iv], post.here ok q (is_int.2 rfl)⟩)
    · obtain ⟨n, h1, h2, q⟩ := q
      exact .inr ⟨_, n, by rw [is_str.1 iv], h1, h2, post.here ok q (is_int.2 rfl)⟩
    · exact q.elim) hs)
theorem int2_ok : Ok1 IntC2 int2O := fun ρ x d M k e h => by
  unfold int2O at e
  split at e
  · cases e; rw [rn_int] at *; exact h
  · cases e; rw [rn_int] at h; rw [rn_bl]; exact h
  · split at e
    · rename_i hl
      obtain ⟨n, h1, h2⟩ := Option.map_eq_some_iff.mp e
      cases h2
      rw [rn_int] at h
      rw [rn_str]
      exact ⟨n, h1, hl, h⟩
    · cases e
  · cases e
theorem i_intc2 (hg : Gl X "int") (hm : X.mg "int" = none) (h : IE γ X e s) (hs : starEach [e] X.env = [(false, eval e X.env)] := by rfl) : IE γ X (.Call (.Name "int" p) [e] [] pos) (c1 int2O s) := i_one (fun _ _ _ h => ev_intc2 hg hm h hs) int2_ok h
/-! ### f"{a}..{b}" -/
end
end DL
end
section
set_option Elab.async false
set_option linter.all false
set_option maxRecDepth 100000
/-! bool <= bool -/
namespace DL
open PySem L2
section
variable {X : Cx} {γ : Nat → Addr} {M : Store} {k : DK} {Δ : DS} {a b e e2 : Expr} {pos p : Pos}
def rLeB : R2 := fun x y H Q => ∃ c d, x = .bl c ∧ y = .bl d ∧ Q (.bl (!c || d)) H
theorem op_leB : OpR X (compareOp .LtE) rLeB := by
  intro pins s σ H x y v u Q I rx ry h
  obtain ⟨c, d, rfl, rfl, q⟩ := h
  obtain rfl := rx
  obtain rfl := ry
  refine PyProof.Rows.le_bool (fin_bl I ?_ rfl)
  have e : decide (PyProof.Rows.b2i c ≤ PyProof.Rows.b2i d) = (!c || d) := by cases c <;> cases d <;> rfl
  rw [e]
  exact q
def rCo2 (op : CmpOp) : R2 := match op with
  | .LtE => fun x y H Q => rCo .LtE x y H Q ∨ rLeB x y H Q
  | op => rCo op
theorem op_co2 {op : CmpOp} : OpR X (compareOp op) (rCo2 op) := by
  cases op with
  | LtE => exact (op_co (op := .LtE)).or op_leB
  | _ => exact op_co
def CoP2 (op : CmpOp) (d1 d2 : D) (M : Store) (k : DK) : Prop := match op, d1, d2 with
  | .LtE, .bl c, .bl d => k (.bl (!c || d)) M
  | op, d1, d2 => CoP op d1 d2 M k
theorem p2_co2 {op : CmpOp} {d1 d2 : D} (h : CoP2 op d1 d2 M k) : P2 X (rCo2 op) d1 d2 M k := fun F H x y Q ok i1 i2 post => by
  unfold CoP2 at h
  split at h
  · exact .inr ⟨_, _, is_bl.1 i1, is_bl.1 i2, post.here ok h (is_bl.2 rfl)⟩
  · have q := p2_co h F H x y Q ok i1 i2 post
    cases op with
    | LtE => exact .inl q
    | _ => exact q
theorem c_co2 {op : CmpOp} (h : EvD X a Δ M fun d1 M1 => EvD X b Δ M1 fun d2 M2 => CoP2 op d1 d2 M2 k) : EvC X op a b Δ M k := c_op2 op_co2 (h.mono fun _ _ q => q.mono fun _ _ p => p2_co2 p)
def coO2 (op : CmpOp) (x y : D) : Option D := match op, x, y with
  | .LtE, .bl c, .bl d => some (.bl (!c || d))
  | op, x, y => coO op x y
theorem co_ok2 {op : CmpOp} : Ok2 (CoP2 op) (coO2 op) := fun ρ x y d M k e h => by
  unfold coO2 at e
  split at e
  · cases e
    rw [rn_bl, rn_bl]
    rw [rn_bl] at h
    exact h
  · rename_i hn
    have q := co_ok (op := op) ρ x y d M k e h
    unfold CoP2
    split
    · rename_i c' d' e1 e2
      exfalso
      have e3 : x = .bl c' := by
        cases x with
        | bl z => rw [rn_bl] at e1; exact e1
        | non => rw [rn_non] at e1; cases e1
        | int _ => rw [rn_int] at e1; cases e1
        | str _ => rw [rn_str] at e1; cases e1
        | ty _ => rw [rn_ty] at e1; cases e1
        | tup _ => rw [rn_tup] at e1; cases e1
        | lst _ => rw [rn_lst] at e1; cases e1
        | frl _ => rw [rn_frl] at e1; cases e1
        | dct _ _ => rw [rn_dct] at e1; cases e1
        | ins _ _ _ => rw [rn_ins] at e1; cases e1
        | cell _ => rw [rn_cell] at e1; cases e1
        | exc _ _ _ => rw [rn_exc] at e1; cases e1
      subst e3
      unfold coO at e
      cases y <;> cases e
    · exact q
theorem k_co2 {op : CmpOp} {s t : SE} (ha : IE γ X a s) (hc : IE γ X b t) : IC γ X op a b (c2 (coO2 op) s t) := j_two (fun Δr M k h => c_co2 h) co_ok2 ha hc
end
end DL
end
section
set_option Elab.async false
set_option linter.all false
set_option maxRecDepth 100000
/-! isinstance(x, (list, tuple)) of instances; self.f in __init__ -/
namespace DL
open PySem L2
/-- an own class that is neither list nor tuple -/
structure NoLT (K : PySem.W.Frag) (C : Addr) : Prop where
  ty : TyC K C
  nl : PySem.W.kitOne K (.ref C) (.type "list") = some false
  nt : PySem.W.kitOne K (.ref C) (.type "tuple") = some false
section
variable {X : Cx} {γ : Nat → Addr} {M : Store} {k : DK} {Δ : DS} {a b e e2 : Expr} {es : List Expr} {pos p : Pos} {f x : Str} {s : SE} {c i : Nat}
end
end DL
end
section
set_option Elab.async false
set_option linter.all false
set_option maxRecDepth 100000
/-! the head: static methods, constant tuples, what is neither list nor tuple -/
namespace DL
open PySem PySem.W PySem.Calls PyProof.Rows L2 He He5
theorem tSta_ok {K : Frag} {x m : PySem.Str} (c : tSta x m K = true) : ClX.CRead K (ga K x) (.type "type") ∧ SMet K (ga K x) (.type "type") m (ma K (ga K x) m) (sA x m K) := by
  obtain ⟨c1, c2⟩ := ba c
  obtain ⟨h1, h2⟩ := wrapB_ok c2
  refine ⟨⟨c1, ?_⟩, ⟨h1, h2⟩⟩
  have h := c1
  unfold readsIn at h
  obtain ⟨h, _⟩ := ba h
  obtain ⟨h, _⟩ := ba h
  obtain ⟨h, h3⟩ := ba h
  obtain ⟨_, h2⟩ := ba h
  unfold specialIn
  rw [beq_iff_eq.mp h2, Option.bind_some]
  exact beq_iff_eq.mp h3
/-! what the head leaves, by numbers of places -/
/-! constant tuples -/
end DL
end
section
set_option Elab.async false
set_option linter.all false
set_option maxRecDepth 100000
/-! DX: what is raised -/
namespace DL
open PySem L2 PyProof.Rows
/-- as wpB; what is raised goes to kx -/
def wpX {α : Type} (b : Bool) : Nat → Pg α → (α → Nat → Prop) → (D → Nat → Prop) → Prop
  | n, .ret a, k, _ => k a n
  | _, .fail, _, _ => False
  | n, .exn d, _, kx => kx d n
  | n, .draw low f, k, kx => b = true ∧ 0 < low ∧ low < 2 ^ 200 ∧ ∃ m, n = m + 1 ∧ ∀ d, 0 ≤ d → d < low → wpX b m (f d) k kx
def noX {α : Type} : Pg α → Pg α
  | .ret a => .ret a
  | .fail => .fail
  | .exn _ => .fail
  | .draw low f => .draw low fun d => noX (f d)
def catchP {α : Type} (h : D → Pg α) : Pg α → Pg α
  | .ret a => .ret a
  | .fail => .fail
  | .exn d => h d
  | .draw low f => .draw low fun d => catchP h (f d)
section
variable {α β : Type} {b : Bool}
theorem wpX.mono : ∀ {p : Pg α} {n : Nat} {k k' : α → Nat → Prop} {kx kx' : D → Nat → Prop}, wpX b n p k kx → (∀ a m, k a m → k' a m) → (∀ a m, kx a m → kx' a m) → wpX b n p k' kx'
  | .ret a, n, _, _, _, _, h, hk, _ => hk a n h
  | .fail, _, _, _, _, _, h, _, _ => h.elim
  | .exn d, n, _, _, _, _, h, _, hx => hx d n h
  | .draw low f, n, _, _, _, _, h, hk, hx => by
    obtain ⟨h1, h2, h3, m, e, h4⟩ := h
    exact ⟨h1, h2, h3, m, e, fun d d0 d1 => wpX.mono (h4 d d0 d1) hk hx⟩
theorem wpX_bind : ∀ {p : Pg α} {f : α → Pg β} {n : Nat} {k : β → Nat → Prop} {kx : D → Nat → Prop}, wpX b n (p.bind f) k kx ↔ wpX b n p (fun a m => wpX b m (f a) k kx) kx
  | .ret a, f, n, k, kx => Iff.rfl
  | .fail, f, n, k, kx => Iff.rfl
  | .exn _, f, n, k, kx => Iff.rfl
  | .draw low g, f, n, k, kx => by
    constructor
    · rintro ⟨h1, h2, h3, m, e, h4⟩
      exact ⟨h1, h2, h3, m, e, fun d d0 d1 => wpX_bind.1 (h4 d d0 d1)⟩
    · rintro ⟨h1, h2, h3, m, e, h4⟩
      exact ⟨h1, h2, h3, m, e, fun d d0 d1 => wpX_bind.2 (h4 d d0 d1)⟩
theorem noX_wp : ∀ {p : Pg α} {n : Nat} {k : α → Nat → Prop} {kx : D → Nat → Prop}, wpX b n (noX p) k kx → wpB b n p k
  | .ret a, n, k, kx, h => h
  | .fail, n, k, kx, h => h.elim
  | .exn _, n, k, kx, h => h.elim
  | .draw low g, n, k, kx, h => by
    obtain ⟨h1, h2, h3, m, e, h4⟩ := h
    exact ⟨h1, h2, h3, m, e, fun d d0 d1 => noX_wp (h4 d d0 d1)⟩
theorem catch_wp {h : D → Pg α} : ∀ {p : Pg α} {n : Nat} {k : α → Nat → Prop}, wpB b n (catchP h p) k → wpX b n p k fun d m => wpB b m (h d) k
  | .ret a, n, k, w => w
  | .fail, n, k, w => w.elim
  | .exn _, n, k, w => w
  | .draw low g, n, k, w => by
    obtain ⟨h1, h2, h3, m, e, h4⟩ := w
    exact ⟨h1, h2, h3, m, e, fun d d0 d1 => catch_wp (h4 d d0 d1)⟩
end
/-! ### judgements -/
/-- E is what kx asks of an exception -/
def PostE (K : PySem.W.Frag) (F : Hp) (M : Store) (H : Hp) (kx : DK) (E : XK) : Prop := ∀ (C : Addr) (fs : List Str) (ds : List D) (M' : Store) (F' H' : Hp) (od : Option Addr) (vs : List V), kx (.exc C fs ds) M' → Stp F M H F' M' H' → Ok K F' M' H' → DictF F' od (fs.zip vs) → fs.length = ds.length → IsL K F' ds vs → E (.ref C) od H'
theorem PostE.step {K : PySem.W.Frag} {F F1 H H1 : Hp} {M M1 : Store} {kx : DK} {E : XK} (p : PostE K F M H kx E) (s : Stp F M H F1 M1 H1) : PostE K F1 M1 H1 kx E := fun C fs ds M' F' H' od vs a st => p C fs ds M' F' H' od vs a (s.trans st)
def EvDX (X : Cx) (e : Expr) (Δ : DS) (M : Store) (k kx : DK) : Prop := ∀ F H σ (Q : VK) (W : WX), IsS X.K F Δ σ → Ok X.K F M H → Post X.K F M H k Q → PostE X.K F M H kx (WE W σ) → Takes X W → Sem X e σ H Q
/-- the exception comes while the slots are as at the beginning -/
def StD1 (X : Cx) (st : Stmt) (Δ : DS) (M : Store) (ks : KS) (kx : DK) : Prop := ∀ F H σ (Q : Ends) (W : WX), IsS X.K F Δ σ → Ok X.K F M H → PostS X.K F M H ks Q → PostE X.K F M H kx (WE W σ) → Takes X W → SemS X st Q σ H
def StDX (X : Cx) (st : Stmt) (Δ : DS) (M : Store) (ks : KS) (kx : DK) : Prop := ∀ F H σ (Q : Ends) (E : XK), IsS X.K F Δ σ → Ok X.K F M H → PostS X.K F M H ks Q → PostE X.K F M H kx E → Takes X (fun c d _ H => E c d H) → SemS X st Q σ H
def SsDX (X : Cx) (st : List Stmt) (Δ : DS) (M : Store) (ks : KS) (kx : DK) : Prop := ∀ F H σ (Q : Ends) (E : XK), IsS X.K F Δ σ → Ok X.K F M H → PostS X.K F M H ks Q → PostE X.K F M H kx E → Takes X (fun c d _ H => E c d H) → SemSs X st Q σ H
section
variable {X : Cx} {e : Expr} {st : Stmt} {sts A B : List Stmt} {Δ : DS} {M : Store} {k kx : DK} {ks : KS} {pos : Pos} {x : Str}
theorem semS_nox {σ : L2.St} {H : Hp} {Q : Ends} (h : SemS X.nox st Q σ H) : SemS X st Q σ H := fun pins s I => wpAny_mono (h pins s (I.wish _)) (fun _ _ q => q.unwish) fun _ _ z => z.elim
theorem semT_nox {σ : L2.St} {H : Hp} {Q : Bool → Hp → Prop} (h : SemT X.nox e σ H Q) : SemT X e σ H Q := fun pins s I => wpAny_mono (h pins s (I.wish _)) (fun _ _ ⟨H', I', q⟩ => ⟨H', I'.unwish, q⟩) fun _ _ z => z.elim
theorem StD1.to (h : StD1 X st Δ M ks kx) : StDX X st Δ M ks kx := fun F H σ Q E hS ok post px tk => h F H σ Q _ hS ok post px tk
theorem sx_of (h : StD X.nox st Δ M ks) : StD1 X st Δ M ks kx := fun F H σ Q W hS ok post px tk => semS_nox (h F H σ Q hS ok post)
theorem ssx_nil (h : ks.nx Δ M) : SsDX X [] Δ M ks kx := fun F H σ Q E hS ok post px tk => ss_nil h F H σ Q hS ok post
theorem ssx_one (h : StDX X st Δ M ks kx) : SsDX X [st] Δ M ks kx := fun F H σ Q E hS ok post px tk => semSs_of (pss_one ps_sem) (h F H σ Q E hS ok post px tk)
theorem ssx_cons (h : StDX X st Δ M { ks with nx := fun Δ1 M1 => SsDX X sts Δ1 M1 ks kx } kx) : SsDX X (st :: sts) Δ M ks kx := fun F H σ Q E hS ok post px tk =>
  semSs_of (pss_cons ps_sem pss_sem) (h F H σ _ E hS ok ⟨fun Δ' M' F' H' σ' q s' ok' hS' => q F' H' σ' Q E hS' ok' (post.step s') (px.step s') tk, post.rt, post.bk, post.ct⟩ px tk)
theorem sx_if {c : Expr} (h : TeD X.nox c Δ M fun t M1 => if t = true then SsDX X A Δ M1 ks kx else SsDX X B Δ M1 ks kx) : StDX X (.If c A B pos) Δ M ks kx := fun F H σ Q E hS ok post px tk =>
  semS_of (ps_if pt_sem pss_sem pss_sem) (semT_nox (h F H σ (fun t H1 => if t = true then SemSs X A Q σ H1 else SemSs X B Q σ H1) hS ok fun t M1 F1 H1 q s1 ok1 => by
    cases t with
    | true => exact q F1 H1 σ Q E (hS.mono s1.ext) ok1 (post.step s1) (px.step s1) tk
    | false => exact q F1 H1 σ Q E (hS.mono s1.ext) ok1 (post.step s1) (px.step s1) tk))
theorem sx_set {i : Nat} {pos' : Pos} (hN : X.N.Nodup) (hi : X.N[i]? = some x) (hx : Loc X.env.scope x) (hf : X.fn x = true ∨ X.env.scope.names.lookup x = some .local) (h : EvDX X e Δ M (fun d M1 => ks.nx (Δ.set i (some d)) M1) kx)
    (hs : swapsWith e (some (.Name x pos')) pos.line X.env = pure false := by rfl) : StD1 X (.Assign [.Name x pos'] e pos) Δ M ks kx := fun F H σ Q W hS ok post px tk =>
  semS_of (ps_set hN hi hx pe_sem hs hf) (h F H σ _ W hS ok (fun d M1 F1 H1 v q s1 ok1 i1 => post.nx _ M1 F1 H1 _ q s1 ok1 ((hS.mono s1.ext).set i i1)) px tk)
end
/-! ### a def that raises -/
abbrev SpX := List D → Store → DK → DK → Prop
def spOfX (K : PySem.W.Frag) (sp : SpX) : Sp := fun vs H Q E => ∃ ds F M k kx, IsL K F ds vs ∧ Ok K F M H ∧ sp ds M k kx ∧ Post K F M H k Q ∧ PostE K F M H kx E
abbrev XOx (P : Program) (w : World) (K : PySem.W.Frag) (mg : Str → Option Value) (base : Heap) (N : List Str) (qual : Str) (st : Stmt) (f : Addr) (cdv : Value) (A : Around) (outer : List Env) (s : Shared) (H : Hp) (E : XK) : Cx := cxOf (L2.CX P w) P w K mg base N qual (defScope st) f cdv A outer s H E
section
variable {P : Program} {w : World} {K : PySem.W.Frag} {mg : Str → Option Value} {base : Heap}
structure CalX (P : Program) (w : World) (K : PySem.W.Frag) (mg : Str → Option Value) (base : Heap) (x : Str) (n : Nat) (sp : SpX) : Prop where
  ex : ∃ f fd ps, FnOk P w K mg base (L2.CX P w) n f fd ps (spOfX K sp) ∧ mg x = some (.ref f) ∧ PySem.W.keepIn K (.ref f) = true ∧ Binds K fd ps []
theorem CalX.mono {x : Str} {m n : Nat} {sp : SpX} (c : CalX P w K mg base x m sp) (h : m ≤ n) : CalX P w K mg base x n sp := by
  obtain ⟨f, fd, ps, h1, h2⟩ := c.ex
  exact ⟨f, fd, ps, h1.mono h, h2⟩
theorem ok_dX {x qual : Str} {st : Stmt} {f : Addr} {fd : FuncData} {N ps : List Str} {n : Nat} {sp : SpX} {dvs : List V} (Fn : FnD K x qual st dvs f fd) (S : FnScope N ps (defScope st)) (len : ∀ ds M k kx, sp ds M k kx → ds.length = ps.length)
    (hbody : ∀ (cdv : Value) (A : Around) (outer : List Env) (s : Shared) (H : Hp) (E : XK) (ds : List D) (M : Store) (k kx : DK), Room n (A.deeper (PyProof.Rows.envOfC qual (defScope st) s.heap.objs.size f cdv)) → sp ds M k kx →
      SsDX (XOx P w K mg base N qual st f cdv A outer s H E) (defBody st) (startD N ds) M { nx := fun _ M' => k .non M', rt := k } kx) : FnOk P w K mg base (L2.CX P w) (n + 1) f fd ps (spOfX K sp) := by
  refine Fn.ok S (fun vs H Q E ⟨ds, F, M, k, kx, il, ok, h, post, px⟩ => by rw [← il.length]; exact len ds M k kx h) fun cdv A outer s H vs Q E hr ⟨ds, F, M, k, kx, il, ok, h, post, px⟩ => ?_
  refine ⟨_, pss_sem, hbody cdv A outer s H E ds M k kx hr h F H (L2.start N vs) _ E (start_is il) ok ⟨fun Δ' M' F' H' σ' q st' ok' _ => post .non M' F' H' .non q st' ok' (is_non.2 rfl), post, fun _ _ _ _ _ q => q.elim, fun _ _ _ _ _ q => q.elim⟩ px (takes_of rfl rfl rfl rfl)⟩
end
section
variable {X : Cx} {e : Expr} {es : List Expr} {Δ : DS} {M : Store} {k kx : DK} {p pos : Pos} {x : Str}
end
end DL
end
section
set_option Elab.async false
set_option linter.all false
set_option maxRecDepth 100000
set_option maxHeartbeats 2000000
/-! DX: what was caught is kept -/
namespace DL
open PySem L2 PyProof.Rows
theorem exT_ok {P : Program} {w : World} {H : Hp} {h : Heap} {a C : Addr} {od : Option Addr} {oe : Obj} {vs : Array Value} (e : h.get? a = some oe) (c : oe.cls = .ref C) (d : oe.dict = od) (f : oe.data = .fields vs) : ObjOk P w H h a (ExT C od a) :=
  ⟨⟨oe, vs, e, c, d, f⟩, ⟨oe, e⟩, fun _ _ ⟨o, v, q, r⟩ k => ⟨o, v, k o q, r⟩⟩
section
variable {X : Cx} {pins : List (Addr × Obj)} {σ : L2.St} {H : Hp} {s : Shared}
/-- an object that is not tracked yet, and was not there at the entry, is tracked from now on -/
theorem Inv.track {a : Addr} {oe : Obj} {vs : Array Value} {o : HO} (I : Inv X pins σ H s) (ha : s.heap.get? a = some oe) (hd : oe.data = .fields vs) (na : H a = none) (n0 : X.s_0.heap.get? a = none) (nL : a ≠ X.env.locals) (np : ∀ p ∈ X.pn ++ pins, p.1 ≠ a)
    (new : ObjOk X.prog X.w (upd H a o) s.heap a o) : Inv X pins σ (upd H a o) s := by
  have ne : ∀ {b : Addr} {u : HO}, H b = some u → b ≠ a := fun q z => by rw [z, na] at q; cases q
  have nc : ∀ x c, X.env.cells.lookup x = some c → c ≠ a := fun x c e z => by
    obtain ⟨v, oc, hc, hv⟩ := I.cell x c e
    rw [z, ha] at hc
    cases hc
    rw [hd] at hv
    cases hv
  refine ⟨I.ok, I.os, I.bare, ⟨I.base.keep, I.base.slot, fun b u e n hx => ?_, I.base.there, fun b xs q => ?_, fun b u v q => ?_, fun b ps q => ?_⟩, I.loc, I.cell, ?_, fun x c e => ?_, fun p hp => ?_, fun b u q => ?_, I.len⟩
  · rw [upd_ne (fun z => by rw [z, n0] at e; cases e)]
    exact I.base.free b u e n hx
  · have z := I.base.tups b xs q
    rw [upd_ne (ne z)]; exact z
  · have z := I.base.frzs b u v q
    rw [upd_ne (ne z)]; exact z
  · obtain ⟨m, z⟩ := I.base.tbls b ps q
    exact ⟨m, by rw [upd_ne (ne z)]; exact z⟩
  · rw [upd_ne (Ne.symm nL)]; exact I.free
  · rw [upd_ne (nc x c e)]; exact I.freeC x c e
  · obtain ⟨z1, z2, z3⟩ := I.pin p hp
    exact ⟨z1, by rw [upd_ne (np p hp)]; exact z2, z3⟩
  · by_cases hb : b = a
    · rw [hb, upd_same] at q
      cases q
      rw [hb]; exact new
    · rw [upd_ne hb] at q
      exact (I.hok b u q).stay (fun c v _ z => z) (fun c z => by rw [upd_ne (ne z)]; exact z) fun c xs z => by rw [upd_ne (ne z)]; exact z
end
section
variable {X : Cx} {x n : Str} {c : Value} {i : Nat} {body suite : List Stmt} {b₀ : Stmt} {np pos pos' : Pos} {tb : WX → TS} {ts : Addr → Value → Option Addr → TS} {Wout : WX}
end
end DL
end
section
set_option Elab.async false
set_option linter.all false
set_option maxRecDepth 100000
set_option maxHeartbeats 1000000
/-! DX: programs that raise -/
namespace DL
open PySem L2 PyProof.Rows
structure IEX (γ : Nat → Addr) (X : Cx) (e : Expr) (s : SE) : Prop where
  go : ∀ b u M0 Δ Δr M n (k kx : DK), SI γ b u M0 Δ Δr M n → wpX b n (s Δ) (fun d n' => ∀ M', Aft b u M M' n' → k (rn (rho γ u) d) M') (fun d n' => ∀ M', Aft b u M M' n' → kx (rn (rho γ u) d) M') → EvDX X e Δr M k kx
/-- what is raised comes while the slots are as they were -/
structure IS1 (γ : Nat → Addr) (X : Cx) (st : Stmt) (t : ST) : Prop where
  go : ∀ b u M0 Δ Δr M n (ks : KS) (kx : DK), SI γ b u M0 Δ Δr M n → wpX b n (t Δ) (OutOk γ b u M0 ks) (fun d n' => ∀ M', Aft b u M M' n' → kx (rn (rho γ u) d) M') → StD1 X st Δr M ks kx
structure ISX (γ : Nat → Addr) (X : Cx) (st : Stmt) (t : ST) : Prop where
  go : ∀ b u M0 Δ Δr M n (ks : KS) (kx : DK), SI γ b u M0 Δ Δr M n → wpX b n (t Δ) (OutOk γ b u M0 ks) (fun d n' => ∀ M', Aft b u M0 M' n' → kx (rn (rho γ u) d) M') → StDX X st Δr M ks kx
structure ISsX (γ : Nat → Addr) (X : Cx) (st : List Stmt) (t : ST) : Prop where
  go : ∀ b u M0 Δ Δr M n (ks : KS) (kx : DK), SI γ b u M0 Δ Δr M n → wpX b n (t Δ) (OutOk γ b u M0 ks) (fun d n' => ∀ M', Aft b u M0 M' n' → kx (rn (rho γ u) d) M') → SsDX X st Δr M ks kx
def sfT (t : ST) : ST := fun Δ => noX (t Δ)
def sfB (t : SB) : SB := fun Δ => noX (t Δ)
def sfA (t : SA) : SA := fun Δ => noX (t Δ)
section
variable {γ : Nat → Addr} {X : Cx} {a e o : Expr} {es : List Expr} {s r : SE} {st : Stmt} {sts A B : List Stmt} {t q : ST} {pos p : Pos} {x : Str}
theorem IS1.isx (h : IS1 γ X st t) : ISX γ X st t := .mk fun b u M0 Δ Δr M n ks kx S w => (h.go b u M0 Δ Δr M n ks kx S (w.mono (fun _ _ q => q) fun d n' q M' A => q M' (Aft.of0 (S.aft A)))).to
theorem x_of (h : IS γ X.nox st t) : IS1 γ X st (sfT t) := .mk fun b u M0 Δ Δr M n ks kx S w => sx_of (h.go b u M0 Δ Δr M n ks S (noX_wp w))
theorem x_nil : ISsX γ X [] tNil := .mk fun b u M0 Δ Δr M n ks kx S w => ssx_nil (w Δr M S)
theorem x_one (h : ISX γ X st t) : ISsX γ X [st] t := .mk fun b u M0 Δ Δr M n ks kx S w => ssx_one (h.go b u M0 Δ Δr M n ks kx S w)
theorem x_cons (h : ISX γ X st t) (h2 : ISsX γ X sts q) : ISsX γ X (st :: sts) (tSeq t q) := .mk fun b u M0 Δ Δr M n ks kx S w => by
  refine ssx_cons (h.go b u M0 Δ Δr M n _ kx S ((wpX_bind.1 w).mono (fun o n1 w1 => ?_) fun _ _ z => z))
  cases o with
  | nx Δ1 => exact fun Δr1 M1 S1 => h2.go b u M0 Δ1 Δr1 M1 n1 ks kx S1 w1
  | rt d => exact w1
  | bk Δ1 => exact w1
  | ct Δ1 => exact w1
theorem x_if {tb : SB} (h : IT γ X.nox e tb) (hA : ISsX γ X A t) (hB : ISsX γ X B q) : ISX γ X (.If e A B pos) (tIf (sfB tb) t q) := .mk fun b u M0 Δ Δr M n ks kx S w =>
  sx_if (h.go b u M0 Δ Δr M n _ S ((noX_wp (wpX_bind.1 w)).mono fun c n1 w1 M1 A1 => by
    cases c with
    | true => exact hA.go b u M0 Δ Δr M1 n1 ks kx (S.aft A1) w1
    | false => exact hB.go b u M0 Δ Δr M1 n1 ks kx (S.aft A1) w1))
theorem x_set {i : Nat} {pos' : Pos} (hN : X.N.Nodup) (hi : X.N[i]? = some x) (hx : Loc X.env.scope x) (hf : X.fn x = true ∨ X.env.scope.names.lookup x = some .local) (h : IEX γ X e s)
    (hs : swapsWith e (some (.Name x pos')) pos.line X.env = pure false := by rfl) : IS1 γ X (.Assign [.Name x pos'] e pos) (tSet i (oV s)) := .mk fun b u M0 Δ Δr M n ks kx S w =>
  sx_set hN hi hx hf (h.go b u M0 Δ Δr M n _ kx S ((wpX_bind.1 (wpX_bind.1 w)).mono (fun d n1 w1 M1 A1 => w1 _ M1 ⟨(S.aft A1).rel.setV i d, A1.urn, (S.aft A1).k0⟩) fun _ _ z => z)) hs
/-! ### contracts -/
def spWX (γ : Nat → Addr) (fl : List Bool) (F : List D → Pg D) : SpX := fun drs M k kx => ∃ b u ds n, VwL (rho γ u) b M fl ds drs ∧ UrnB b M u.1 n ∧ wpX b n (F ds) (fun d n' => ∀ M', Aft b u M M' n' → k (rn (rho γ u) d) M') fun d n' => ∀ M', Aft b u M M' n' → kx (rn (rho γ u) d) M'
end
section
variable {P : Program} {w : World} {K : PySem.W.Frag} {mg : Str → Option Value} {base : Heap} {γ : Nat → Addr}
theorem fn_okX {F : List D → Pg D} {x qual : Str} {st : Stmt} {f : Addr} {fd : FuncData} {N ps : List Str} {n : Nat} {t : ST} {dvs : List V} {fl : List Bool} (hF : F = runF fl ps.length N.length t) (Fn : FnD K x qual st dvs f fd) (S : FnScope N ps (defScope st))
    (hbody : ∀ (cdv : Value) (A : Around) (outer : List Env) (s : Shared) (H : Hp) (E : XK), Room n (A.deeper (PyProof.Rows.envOfC qual (defScope st) s.heap.objs.size f cdv)) → ISsX γ (XOx P w K mg base N qual st f cdv A outer s H E) (defBody st) t) :
    FnOk P w K mg base (L2.CX P w) (n + 1) f fd ps (spOfX K (spWX γ fl F)) := by
  subst hF
  refine ok_dX Fn S (fun drs M k kx ⟨b, u, ds, m, e, U, h⟩ => ?_) fun cdv A outer s H E drs M k kx hr ⟨b, u, ds, m, e, U, h⟩ => ?_
  · unfold runF at h
    split at h
    · rw [VwL.len e]; assumption
    · exact h.elim
  · unfold runF at h
    split at h
    · refine (hbody cdv A outer s H E hr).go b u M (startS fl N.length ds) _ M m _ kx ⟨start_rel N e, U, KeepB.refl⟩ ((wpX_bind.1 h).mono (fun o n1 w1 => ?_) fun _ _ z => z)
      cases o with
      | nx Δ' =>
        intro Δr' M' S'
        have w2 := w1 M' (Aft.of0 S')
        rw [rn_non] at w2
        exact w2
      | rt d => exact w1
      | bk _ => exact w1.elim
      | ct _ => exact w1.elim
    · exact h.elim
end
/-! ### raise E() -/
/-- a class of exceptions without an __init__ of its own -/
structure ExcK (K : PySem.W.Frag) (C : Addr) : Prop where
  ex : ∃ (bmB : List Value) (B newId initId : String), ExcBaseFacts B newId initId bmB ∧ PySem.W.excIn K C bmB newId = true
  kp : PySem.W.keepIn K (.ref C) = true
  sb : PySem.W.subIn K (.ref C) (.type "BaseException") = some true
  ty : PySem.W.typeIn K (.ref C) = some (.type "type")
  me : PySem.W.exmOne K (.ref C) (.ref C) = some true
theorem pmk_new {X : Cx} {C : Addr} {x : Str} {p pos : Pos} (T : ExcK X.K C) (gC : X.mg x = some (.ref C)) (hg : Gl X x) (hdb : (x == ("__debug__" : Str)) = false := by decide) : PMk X (.Call (.Name x p) [] [] pos) (fun _ H Q => Q (.ref C) none H) := by
  obtain ⟨bmB, B, newId, initId, F, q⟩ := T.ex
  intro pins s σ H Q I h
  refine wpAny_Call_Name_kw (ld_glob I hg gC ?_ hdb)
  refine PySem.W.callWith_K0 I.kIn T.kp ?_
  obtain ⟨bm, N, nm, qn, bs, hdct, sn, sub, ab, col, dd, k0, k1, k2, k3, k5, mN, hC, hN, hni, tl⟩ := exc_obj I.kIn q
  exact wpAny_call_exc_subT F tl hC hN hni (fun h' e hm => mk_of I hm (raises_own T.sb T.ty) h (I.hok.gone hm.new)) (Nat.zero_le _)
def tRaise (c : Nat) : ST := fun _ => .exn (.exc (c + 1) [] [])
theorem x_raise {γ : Nat → Addr} {X : Cx} {c : Nat} {x : Str} {p pos pos2 : Pos} (hc : X.calm = true) (T : ExcK X.K (γ c)) (gC : X.mg x = some (.ref (γ c))) (hg : Gl X x) (hdb : (x == ("__debug__" : Str)) = false := by decide) : ISX γ X (.Raise (some (.Call (.Name x p) [] [] pos)) none pos2) (tRaise c) := .mk fun b u M0 Δ Δr M n ks kx S w => by
  intro F H σ Q E hS ok post px tk
  refine semS_of (ps_raise hc tk (pmk_new T gC hg hdb)) ?_
  have w1 := w M (Aft.of0 S)
  rw [rn_exc, rnL_nil] at w1
  exact px _ [] [] M F H none [] w1 Stp.refl ok rfl rfl IsL.nil
end DL
end
section
set_option Elab.async false
set_option linter.all false
set_option maxRecDepth 100000
set_option maxHeartbeats 1000000
/-! DX: try: st, except E as n: y = n -/
namespace DL
open PySem L2 PyProof.Rows
section
variable {γ : Nat → Addr} {X : Cx} {st : Stmt} {t : ST}
theorem isS_caught {K : PySem.W.Frag} {F : Hp} {Δ : DS} {σ : L2.St} {i j : Nat} {d : D} {v : V} (h : IsS K F Δ σ) (hij : i ≠ j) (hd : Is K F d v) : IsS K F ((Δ.set j none).set i (some d)) ((((σ.set j (some v)).set i (some v))).set j none) := by
  refine ⟨by simp only [List.length_set]; exact h.1, fun k e q => ?_⟩
  by_cases hk : k = i
  · subst hk
    have hl : k < Δ.length := by
      by_cases z : k < Δ.length
      · exact z
      · rw [List.getElem?_eq_none (by simp only [List.length_set]; omega)] at q; cases q
    rw [List.getElem?_set_self (by simp only [List.length_set]; exact hl)] at q
    cases q
    refine ⟨v, ?_, hd⟩
    rw [List.getElem?_set_ne (Ne.symm hij), List.getElem?_set_self (by simp only [List.length_set]; rw [← h.1]; exact hl)]
  · rw [List.getElem?_set_ne (Ne.symm hk)] at q
    by_cases hj : k = j
    · subst hj
      by_cases z : k < Δ.length
      · rw [List.getElem?_set_self z] at q; cases q
      · rw [List.getElem?_eq_none (by simp only [List.length_set]; omega)] at q; cases q
    · rw [List.getElem?_set_ne (Ne.symm hj)] at q
      obtain ⟨u, h1, h2⟩ := h.2 k e q
      refine ⟨u, ?_, h2⟩
      rw [List.getElem?_set_ne (Ne.symm hj), List.getElem?_set_ne (Ne.symm hk), List.getElem?_set_ne (Ne.symm hj)]
      exact h1
end
end DL
end
section
set_option Elab.async false
set_option linter.all false
set_option maxRecDepth 100000
set_option maxHeartbeats 1000000
/-! DX: isinstance of what was caught -/
namespace DL
open PySem L2 PyProof.Rows
section
variable {X : Cx} {C : Addr}
theorem call_isX (T : ExcC X.K C) : CallR X (.builtin "isinstance") (fun xs H Q => ∃ (a : Addr) (t : String) (b : Bool), xs = [.ref a, .ty t] ∧ H a = some (ExT C none a) ∧ PySem.W.kitOne X.K (.ref C) (.type t) = some b ∧ Q (.bl b) H) := by
  intro pins s σ H xs us Q I r h
  obtain ⟨a, t, b, rfl, ha, e, q⟩ := h
  obtain ⟨⟨oe, vs, ho, hc, hd, hf⟩, _, _⟩ := I.hok a _ ha
  cases r with
  | cons rx rr =>
    cases rr with
    | cons rt rr =>
      cases rr
      cases rx
      cases rt
      have J : PySem.W.InstAt s.heap a oe C none := by
        obtain ⟨oc, od, oda, osl⟩ := oe
        dsimp only at hc hd hf
        subst hc hd hf
        exact ⟨ho, rfl, rfl, trivial⟩
      exact PySem.W.kia_one (PySem.W.handS_kitx_exc T.hg T.hk T.hs T.hd T.ha T.hn T.ht T.hm) I.kIn J e (fun z => nomatch z) fun tk => ⟨.bl b, H, I.kept (t' := tk) fun _ _ z => z, rfl, q⟩
end
/-- isinstance(e, t) of an exception of the class c, or of None -/
def cIsX (c : Nat) (b : Bool) (s : SE) : SE := fun Δ => (s Δ).bind fun d => match d with
  | .exc C [] [] => if C = c + 1 then .ret (.bl b) else .fail
  | _ => .fail
theorem i_isX {γ : Nat → Addr} {X : Cx} {e e2 : Expr} {s : SE} {c : Nat} {b : Bool} {t : String} {p pos : Pos} (T : ExcC X.K (γ c)) (hk : PySem.W.kitOne X.K (.ref (γ c)) (.type t) = some b) (hg : Gl X "isinstance") (hm : X.mg "isinstance" = none) (h : IE γ X e s) (h2 : IE γ X e2 (cC (.ty t)))
    (hs : starEach [e, e2] X.env = (false, eval e X.env) :: starEach [e2] X.env := by rfl) (hs2 : starEach [e2] X.env = [(false, eval e2 X.env)] := by rfl) (hpl : (backTo pos (starEach [e2] X.env)).any (·.1) = false := by rfl) : IE γ X (.Call (.Name "isinstance" p) [e, e2] [] pos) (cIsX c b s) := .mk fun bb u M0 Δ Δr M n k S w => by
  refine ev_callB (call_isX T) hg hm (by decide +kernel) (by decide) (by decide) hs hpl (two2 (h.go bb u M0 Δ Δr M n _ S ((wpB_bind.1 w).mono fun d n1 w1 M1 A1 => h2.go bb u M0 Δ Δr M1 n1 (fun d2 M2 => PB X _ [rn (rho γ u) d, d2] M2 k) (S.aft A1) ?_)) hs hs2)
  show ∀ M2, Aft bb u M1 M2 n1 → PB X _ [rn (rho γ u) d, rn (rho γ u) (.ty t)] M2 k
  intro M2 A2
  split at w1
  · split at w1
    · rename_i C hC
      subst hC
      have hk2 := w1 M2 (A1.trans A2)
      rw [rn_bl] at hk2
      intro F H vs Q ok il post
      obtain ⟨v, r, rfl, i1, i2⟩ := isL_cons.1 il
      obtain ⟨v2, rfl, i3⟩ := isL1 i2
      rw [rn_exc, rnL_nil] at i1
      obtain ⟨a, od, ws, rfl, hF, hD, hl, iw⟩ := is_exc.1 i1
      rw [rn_ty] at i3
      rw [is_ty.1 i3]
      rw [isL_nil.1 iw] at hD
      cases od with
      | some dd =>
        exact (hD.1 rfl).elim
      | none =>
        have hH : H a = some (ExT (γ c) none a) := by
          rcases ok.sub a _ hF with z | ⟨_, _, z, _⟩
          · exact z
          · cases z
        exact ⟨a, t, b, rfl, hH, hk, post.here ok hk2 (is_bl.2 rfl)⟩
    · exact w1.elim
  · exact w1.elim
end DL
end
section
set_option Elab.async false
set_option linter.all false
set_option maxRecDepth 100000
set_option maxHeartbeats 1000000
/-! dicts of one's own: {}, a dict comprehension, d[k] = v, d.get(k, x), d.pop(k, x) -/
namespace DL
open PySem PySem.Spec PyProof.Rows L2
section
variable {X : Cx} {Δ : DS} {M : Store} {tg e : Expr} {k : DK} {pos : Pos}
theorem ev_dnew (h : ∀ q, M q = none → k (.cell q) (mup M q (.dct [] []))) : EvD X (.Dict [] [] pos) Δ M k := fun F H σ Q hS ok post =>
  sem_of pe_dnewK fun q hq => by
    obtain ⟨hF, hM⟩ := ok.fresh hq
    obtain ⟨o2, s2⟩ := ok.cell (m := .dct [] []) (o := .dK []) hq ⟨[], rfl, rfl, IsL.nil⟩
    exact post _ _ F _ _ (h q hM) s2 o2 (is_cell.2 rfl)
end
section
variable {X : Cx} {Δ : DS} {M : Store} {a b e e2 o : Expr} {k : DK} {ks : KS} {pos apos : Pos}
theorem dct_of {K : PySem.W.Frag} {F H : Hp} (ok : Ok K F M H) {q : Addr} {kk : List Key} {ds : List D} (h : M q = some (.dct kk ds)) : ∃ vs, H q = some (.dK (kk.zip vs)) ∧ kk.length = ds.length ∧ IsL K F ds vs := by
  obtain ⟨_, o, hH, vs, rfl, l, il⟩ := ok.mem q _ h
  exact ⟨vs, hH, l, il⟩
/-- d[k] = v -/
theorem s_dput {spos : Pos} (hu : X.A.units + 1 < cLine) (h : EvD X e Δ M fun y M1 => EvD X a Δ M1 fun d M2 => EvD X b Δ M2 fun j M3 => ∃ q kk ds c, d = .cell q ∧ keyOf j = some c ∧ M3 q = some (.dct kk ds) ∧ ds.length < sizeLine ∧ ks.nx Δ (mup M3 q (.dct (dputD kk ds c y).1 (dputD kk ds c y).2)))
    (hs : swapsWith e (some (.Subscript a b spos)) pos.line X.env = pure false := by rfl) : StD X (.Assign [.Subscript a b spos] e pos) Δ M ks := fun F H σ Q hS ok post =>
  semS_of (ps_dput hu pe_sem pe_sem pe_sem hs) (h F H σ _ hS ok fun y M1 F1 H1 v hq st ok1 iy => two hq (hS.mono st.ext) ok1 fun d j M3 F3 H3 u w ⟨q, kk, ds, c, e1, e2, hm, hl, hk⟩ st3 ok3 i1 i2 => by
    subst e1
    obtain ⟨vs, hH, lk, il⟩ := dct_of ok3 hm
    obtain ⟨us, p1, p2, p3⟩ := put_is (k := c) lk il (iy.mono st3.ext)
    have hlen : (kk.zip vs).length < sizeLine := by
      rw [List.length_zip, ← il.length, lk]
      omega
    have wr := ok3.write (m := .dct (dputD kk ds c y).1 (dputD kk ds c y).2) (o := .dK (putK (kk.zip vs) c v)) hm ⟨us, congrArg HO.dK p1, p2, p3⟩
    exact ⟨q, _, is_cell.1 i1, .inl ⟨_, c, hH, key_is e2 i2, hlen, rfl⟩, post.nx _ _ F3 _ σ hk ((st.trans st3).trans wr.2) wr.1 (hS.mono (st.trans st3).ext)⟩)
/-- d.get(k, x) -/
theorem ev_getO (hu : X.A.units + 1 < cLine) (h : EvD X o Δ M fun d M1 => ∃ q kk ds, d = .cell q ∧ M1 q = some (.dct kk ds) ∧ EvD X e Δ M1 fun d2 M2 => ∃ c, keyOf d2 = some c ∧ EvD X e2 Δ M2 fun d3 M3 => ∃ kk' ds', M3 q = some (.dct kk' ds') ∧ k ((valD kk' ds' c).getD d3) M3) (m : M2 X o "get" apos e e2 pos := by exact ⟨rfl, rfl, rfl, rfl⟩) :
    EvD X (.Call (.Attribute o "get" apos) [e, e2] [] pos) Δ M k := fun F H σ Q hS ok post => by
  refine sem_of (pe_dget2 hu pe_sem pe_sem pe_sem m) ?_
  refine h F H σ _ hS ok fun d M1 F1 H1 v ⟨q, kk, ds, ed, hM, h2⟩ st ok1 i => ?_
  subst ed
  obtain ⟨vs, hq, _, _⟩ := dct_of ok1 hM
  refine ⟨q, is_cell.1 i, .inl ⟨_, .inl hq⟩, h2 F1 H1 σ _ (hS.mono st.ext) ok1 fun d2 M2 F2 H2 y ⟨c, hc, h3⟩ st2 ok2 i2 => h3 F2 H2 σ _ ((hS.mono st.ext).mono st2.ext) ok2 fun d3 M3 F3 H3 z ⟨kk', ds', hM3, hk⟩ st3 ok3 i3 => ?_⟩
  obtain ⟨vs', hq', hl', il'⟩ := dct_of ok3 hM3
  have w := val_is (q := c) hl' il'
  refine ⟨valV (kk'.zip vs') c, .inl ⟨_, c, .inl hq', key_is hc i2, rfl⟩, ?_⟩
  have st' := (st.trans st2).trans st3
  cases hv : valD kk' ds' c with
  | some r =>
    obtain ⟨u, h1, h2⟩ := w.1 r hv
    rw [h1]
    rw [hv] at hk
    exact (post.step st').here ok3 hk h2
  | none =>
    rw [w.2 hv]
    rw [hv] at hk
    exact (post.step st').here ok3 hk i3
end
end DL
end
section
set_option Elab.async false
set_option linter.all false
set_option maxRecDepth 100000
/-! own __getitem__, own __len__ -/
namespace DL
open PySem L2 PyProof.Rows
structure MethI (P : Program) (w : World) (K : PySem.W.Frag) (mg : Str → Option Value) (base : Heap) (C : Addr) (m : Str) (n : Nat) (sp : SpD) : Prop where
  ex : ∃ f fd ps, FnOk P w K mg base CX0 n f fd ps (spOf K sp) ∧ Meth K C m f ∧ Binds K fd ps [] ∧ PySem.W.fnIn K f = true
section
variable {X : Cx} {a b : Expr} {Δ : DS} {M : Store} {k : DK} {p pos : Pos} {C : Addr} {n : Nat} {sp : SpD}
/-- a call inside of a builtin -/
theorem run_inI {pn : List (Addr × Obj)} {σ : L2.St} {H : Hp} {s : Shared} {Q : VK} {us : List Value} {vs : List V} {f : Addr} {fd : FuncData} {ps : List Str} {sq : Sp} (F : FnOk X.prog X.w X.K X.mg X.base CX0 n f fd ps sq) (hr : Room (n + 1) X.A) (hb : Binds X.K fd ps []) (I : Inv X pn σ H s) (r : Vals vs us) (h : sq vs H Q E0) :
    wpAny (model X.prog X.w) X.A.in1 (call (.ref f) us) (EP X pn σ Q) X.xe s := by
  have ln : (us ++ []).length = ps.length := by rw [List.append_nil, ← r.length]; exact F.len _ _ _ _ h
  have bd := hb s us I.kIn ln
  rw [List.append_nil] at bd
  refine wpAny_call (codeAny_mono (F.run X.A.in1 X.stack s H ⟨us, []⟩ us vs Q E0 hr.in1 I.env0.in1 bd r h) fun z s' q => ?_)
  match z, q with
  | .error e, q => exact pass0 pn σ H s e s' I q
  | .ok (.ret u), q => exact I.after q
/-- len(o) of an instance -/
def rLenO (C : Addr) (sq : Sp) : List V → Hp → VK → Prop := fun xs H Q => ∃ q dx fs, xs = [.ref q] ∧ H q = some (.ins C dx fs) ∧ sq [.ref q] H (fun z H' => ∃ m : Int, z = .int m ∧ (0 ≤ m ∧ m < 2 ^ 63) ∧ Q (.int m) H') E0
theorem call_lenO {sq : Sp} {g : Addr} {fd : FuncData} {ps : List Str} (hF : FnOk X.prog X.w X.K X.mg X.base CX0 n g fd ps sq) (hr : Room (n + 1) X.A) (hm : Meth X.K C "__len__" g) (hb : Binds X.K fd ps []) : CallR X (.builtin "len") (rLenO C sq) := by
  intro pn s σ H xs us Q I r h
  obtain ⟨q, dx, fs, ex, hq, hs⟩ := h
  subst ex
  obtain ⟨u, eu, ru⟩ := vals1 r
  subst eu
  cases ru
  obtain ⟨od, J⟩ := look_of I hq
  obtain ⟨m, hFr⟩ := I.fr
  refine PySem.W.len_K hFr I.ok.mod.kin J hm.at_ hm.fn (thn (run_inI (vs := [.ref q]) hF hr hb I (.cons (show RelV (.ref q) (.ref q) from rfl) .nil) hs) fun z s2 ⟨zv, H2, I2, rz, m, em, hm2, qz⟩ => ?_)
  subst em
  obtain ⟨t, et⟩ := rz
  subst et
  exact ⟨by omega, ⟨.int m, H2, I2.tok _, ⟨_, rfl⟩, qz⟩⟩
theorem ev_ownLen {e : Expr} (mt : MethD X.prog X.w X.K X.mg X.base C "__len__" n sp) (hr : Room (n + 1) X.A) (hg : Gl X "len") (hm : X.mg "len" = none) (h : EvD X e Δ M fun d M1 => ∃ fs ds, insD M1 d = some (C, fs, ds) ∧ sp [d] M1 fun d2 M2 => ∃ m : Int, d2 = .int m ∧ (0 ≤ m ∧ m < 2 ^ 63) ∧ k (.int m) M2)
    (hs : starEach [e] X.env = [(false, eval e X.env)] := by rfl) : EvD X (.Call (.Name "len" p) [e] [] pos) Δ M k := by
  obtain ⟨f, fd, ps, hF, hme, hbn⟩ := mt.ex
  exact ev_callB (call_lenO hF hr hme hbn) hg hm PySem.boot_len (by decide) (by decide) hs rfl (one1 (h.mono fun d M1 ⟨fs, ds, h1, hsp⟩ F H vs Q ok i post => by
    obtain ⟨v, rfl, iv⟩ := isL1 i
    obtain ⟨q, dx, ws, e, hq, _⟩ := ins_of ok h1 iv
    subst e
    exact ⟨q, dx, _, rfl, hq, [d], F, M1, _, IsL.cons iv IsL.nil, ok, hsp, fun d2 M2 F2 H2 z ⟨m, em, hm, hk⟩ st2 ok2 i2 => by
      subst em
      exact ⟨m, is_int.1 i2, hm, post _ M2 F2 H2 _ hk st2 ok2 (is_int.2 rfl)⟩⟩) hs)
end
end DL
end
section
set_option Elab.async false
set_option linter.all false
set_option maxRecDepth 100000
/-! DP: dict(pairs), o[k], len(o) -/
namespace DL
open PySem L2
theorem fnIn_of {K : PySem.W.Frag} {x qual : Str} {ps : Arguments} {body : List Stmt} {sc : Scope} {dvs : List V} {kws : List (Str × V)} {f : Addr} {fd : FuncData} (Fn : FunD K x qual ps body sc dvs kws f fd) : PySem.W.fnIn K f = true := by
  obtain ⟨oc, od, dV, kV, doc, pm, an, cdv, ct, osl, e, lk, _⟩ := Fn.ex
  unfold PySem.W.fnIn
  rw [lk]
section
variable {γ : Nat → Addr} {X : Cx} {a c' e : Expr} {pos p : Pos} {s t : SE} {n c : Nat} {F : List D → Pg D} {ρ : Nat → Addr}
def cOwnLen (c : Nat) (F : List D → Pg D) (s : SE) : SE := fun Δ => (s Δ).bind fun d => if isC c d = true then (F [d]).bind fun r => (ofO (intOf r)).bind fun m => if 0 ≤ m ∧ m < 16777216 then .ret (.int m) else .fail else .fail
theorem i_ownLen (mt : MethD X.prog X.w X.K X.mg X.base (γ c) "__len__" n (spW γ [] F)) (hr : Room (n + 1) X.A) (hg : Gl X "len") (hm : X.mg "len" = none) (h : IE γ X e s) (hs : starEach [e] X.env = [(false, eval e X.env)] := by rfl) : IE γ X (.Call (.Name "len" p) [e] [] pos) (cOwnLen c F s) := .mk fun b u M0 Δ Δr M n k S w => by
  refine ev_ownLen mt hr hg hm (h.go b u M0 Δ Δr M n _ S ((wpB_bind.1 w).mono fun d n1 w1 M1 A1 => ?_)) hs
  split at w1
  · rename_i hd
    obtain ⟨fs, ds, rfl⟩ := isC_is hd
    refine ⟨fs, _, by rw [rn_ins]; rfl, b, u, [.ins (c + 1) fs ds], n1, VwL0 (by rw [rnL_cons, rnL_nil]), A1.urn, (wpB_bind.1 w1).mono fun r n2 w2 M2 A2 => ?_⟩
    obtain ⟨m, h3, h4⟩ := wpB_ofO (wpB_bind.1 w2)
    rw [intOf_is h3, rn_int]
    split at h4
    · rename_i hm
      have h5 := h4 M2 (A1.trans A2)
      rw [rn_int] at h5
      exact ⟨m, rfl, ⟨hm.1, by omega⟩, h5⟩
    · exact h4.elim
  · exact w1.elim
end
end DL
end
section
set_option Elab.async false
set_option linter.all false
set_option maxRecDepth 100000
/-! DP: list(zip(a, b)) as a program; shorter words for what stands often in a walk -/
namespace DL
open PySem L2
section
variable {γ : Nat → Addr} {X : Cx} {a c : Expr} {pos : Pos} {x : Str} {s : SE} {op : CmpOp}
theorem i_v {i : Nat} (hN : X.N[i]? = some x := by rfl) (hv : Vis X.env.scope x := by exact .inl rfl) (hd : (x == ("__debug__" : Str)) = false := by rfl) (hcd : (x == ("__classdict__" : Str)) = false := by rfl) : IE γ X (.Name x pos) (cVar i) := i_var hN hv hd hcd
theorem iv_v {i : Nat} (hN : X.N[i]? = some x := by rfl) (hv : Vis X.env.scope x := by exact .inl rfl) (hd : (x == ("__debug__" : Str)) = false := by rfl) (hcd : (x == ("__classdict__" : Str)) = false := by rfl) : IV γ X (.Name x pos) (cVw i) := iv_var hN hv hd hcd
theorem g_n {i : Nat} (hN : X.N.Nodup) (hi : X.N[i]? = some x := by rfl) (hx : Loc X.env.scope x := by first | exact .inl rfl | exact .inr rfl) (hf : X.fn x = true ∨ X.env.scope.names.lookup x = some .local := by first | exact .inr rfl | exact .inl rfl) : GT X (.Name x pos) (.nm i) [i] := g_name hN hi hx hf
theorem i_cm (h : IC γ X op a c s) (hm : behindInMarks op c = false := by first | exact nomark _ | rfl) : IE γ X (.Compare a [op] [c] pos) s := i_cmp hm h
theorem t_cm (h : IC γ X op a c s) (hm : behindInMarks op c = false := by first | exact nomark _ | rfl) : IT γ X (.Compare a [op] [c] pos) (tB s) := t_cmp hm h
end
end DL
end
section
set_option Elab.async false
set_option linter.all false
set_option maxRecDepth 100000
set_option maxHeartbeats 1000000
/-! DP: dicts of one's own -/
namespace DL
open PySem L2
def ownD (Δ : List Sl) (i : Nat) : Option (List Key × List D) := match Δ[i]? with
  | some (.o (.dct ks ds)) => some (ks, ds)
  | _ => none
theorem ownD_is {Δ : List Sl} {i : Nat} {p : List Key × List D} (h : ownD Δ i = some p) : Δ[i]? = some (.o (.dct p.1 p.2)) := by
  unfold ownD at h
  split at h
  · rename_i q
    cases h
    exact q
  · cases h
def oD0 : List Sl → Pg Sl := fun _ => .ret (.o (.dct [] []))
def tPutD (i : Nat) (s t : SE) : ST := fun Δ => (s Δ).bind fun y => (ofO (ownD Δ i)).bind fun p => (t Δ).bind fun z => (ofO (keyOf z)).bind fun c => if p.2.length < lim then .ret (.nx (Δ.set i (.o (.dct (dputD p.1 p.2 c y).1 (dputD p.1 p.2 c y).2)))) else .fail
def cGetO (i : Nat) (t r : SE) : SE := fun Δ => (ofO (ownD Δ i)).bind fun p => (t Δ).bind fun y => (ofO (keyOf y)).bind fun c => (r Δ).bind fun z => .ret ((valD p.1 p.2 c).getD z)
section
variable {γ : Nat → Addr} {X : Cx} {a c e e2 tg : Expr} {es rest : List Expr} {pos p apos : Pos} {x : Str} {s t r : SE} {sts : List Stmt}
theorem o_dnew : IO γ X (.Dict [] [] pos) oD0 := .mk fun b u M0 Δ Δr M n k S w => ev_dnew fun q hq => by
  have w1 : ∀ M' dr, Aft b u M M' n → SlIs (rho γ u) b M0 M M' (.o (.dct [] [])) dr → k dr M' := w
  have U := S.urn
  obtain ⟨h0, hu⟩ := S.k0.none U hq
  refine w1 _ _ ⟨fun r' m hr' e => ?_, fun hb => (U hb).mup (hu hb)⟩ ⟨q, rfl, hq, ?_, h0, hu, fun _ _ _ z => by cases z⟩
  · have z : r' ≠ q := fun z => by rw [z, hq] at e; cases e
    rw [mup_ne z]
    exact e
  · rw [mup_same]
    rfl
theorem r_putD {i : Nat} {spos px : Pos} (hu : X.A.units + 64 < cLine) (hN : X.N[i]? = some x) (hv : Vis X.env.scope x) (hd : (x == ("__debug__" : Str)) = false) (hcd : (x == ("__classdict__" : Str)) = false) (h : IE γ X e s) (h2 : IE γ X c t)
    (hs : swapsWith e (some (.Subscript (.Name x px) c spos)) pos.line X.env = pure false := by rfl) : IS γ X (.Assign [.Subscript (.Name x px) c spos] e pos) (tPutD i s t) := .mk fun b u M0 Δ Δr M n ks S w => by
  refine s_dput (by omega) (h.go b u M0 Δ Δr M n _ S ((wpB_bind.1 w).mono fun y n1 w1 M1 A1 => ?_)) hs
  obtain ⟨p, h0, w2⟩ := wpB_ofO (wpB_bind.1 w1)
  obtain ⟨q, hq, hM⟩ := S.own (ownD_is h0)
  refine ev_var hN hv hd hcd hq (h2.go b u M0 Δ Δr M1 n1 _ (S.aft A1) ((wpB_bind.1 w2).mono fun z n2 w3 M2 A2 => ?_))
  obtain ⟨cc, h3, w4⟩ := wpB_ofO (wpB_bind.1 w3)
  have S2 := (S.aft A1).aft A2
  obtain ⟨q', hq', hM'⟩ := S2.own (ownD_is h0)
  rw [hq] at hq'
  cases hq'
  split at w4
  · rename_i hl
    refine ⟨q, p.1, rnL (rho γ u) p.2, cc, rfl, by rw [keyOf_rn h3]; exact h3, hM', by rw [rnL_len, lim_eq]; exact hl, ?_⟩
    rw [dputD_rn]
    exact w4 Δr _ (S2.upd (m' := .dct (dputD p.1 p.2 cc y).1 (dputD p.1 p.2 cc y).2) (ownD_is h0) hq)
  · exact w4.elim
theorem i_getO {i : Nat} {px : Pos} (hu : X.A.units + 64 < cLine) (hN : X.N[i]? = some x) (hv : Vis X.env.scope x) (hd : (x == ("__debug__" : Str)) = false) (hcd : (x == ("__classdict__" : Str)) = false) (he : IE γ X e t) (h2 : IE γ X e2 r) (m : M2 X (.Name x px) "get" apos e e2 pos := by exact ⟨rfl, rfl, rfl, rfl⟩) : IE γ X (.Call (.Attribute (.Name x px) "get" apos) [e, e2] [] pos) (cGetO i t r) := .mk fun b u M0 Δ Δr M n k S w => by
  obtain ⟨p, h0, w1⟩ := wpB_ofO (wpB_bind.1 w)
  obtain ⟨q, hq, hM⟩ := S.own (ownD_is h0)
  refine ev_getO (by omega) (ev_var hN hv hd hcd hq ⟨q, _, _, rfl, hM, he.go b u M0 Δ Δr M n _ S ((wpB_bind.1 w1).mono fun y n2 w2 M2 A2 => ?_)⟩) m
  obtain ⟨c, hk, w2⟩ := wpB_ofO (wpB_bind.1 w2)
  refine ⟨c, by rw [keyOf_rn hk]; exact hk, h2.go b u M0 Δ Δr M2 n2 _ (S.aft A2) ((wpB_bind.1 w2).mono fun z n3 w3 M3 A3 => ?_)⟩
  have S3 := (S.aft A2).aft A3
  obtain ⟨q', hq', hM'⟩ := S3.own (ownD_is h0)
  rw [hq] at hq'
  cases hq'
  refine ⟨_, _, hM', ?_⟩
  have w4 := w3 M3 (A2.trans A3)
  rw [valD_rn]
  cases hv : valD p.1 p.2 c with
  | some r => rw [hv] at w4; exact w4
  | none => rw [hv] at w4; exact w4
end
end DL
end
section
set_option Elab.async false
set_option linter.all false
set_option maxRecDepth 100000
set_option maxHeartbeats 1000000
/-! DP: calls of defs that leave parameters to their defaults -/
namespace DL
open PySem L2
structure CalV (P : Program) (w : World) (K : PySem.W.Frag) (mg : Str → Option Value) (base : Heap) (x : Str) (n : Nat) (dv : List D) (sp : SpD) : Prop where
  ex : ∃ f fd ps ds dvs, FnOk P w K mg base CX0 n f fd ps (spOf K sp) ∧ mg x = some (.ref f) ∧ PySem.W.keepIn K (.ref f) = true ∧ Binds K fd ps ds ∧ Vals dvs ds ∧ ∀ F, IsL K F dv dvs
section
variable {X : Cx} {e : Expr} {es : List Expr} {Δ : DS} {M : Store} {k : DK} {p pos : Pos} {x : Str}
end
section
variable {γ : Nat → Addr} {X : Cx} {e : Expr} {es : List Expr} {p pos : Pos} {x : Str}
end
end DL
end
section
set_option Elab.async false
set_option linter.all false
set_option maxRecDepth 100000
set_option maxHeartbeats 1000000
/-! DX: calls that may raise, parameters left to their defaults -/
namespace DL
open PySem L2 PyProof.Rows
section
variable {X : Cx} {CX : CXT} {k : Nat} {f : Addr} {fd : FuncData} {ps : List Str} {sp : Sp} {E : L2.St → XK} {x : Str} {p pos : Pos} {e : Expr} {es : List Expr} {t : TA} {dvs : List V} {ds : List Value}
end
structure CalXV (P : Program) (w : World) (K : PySem.W.Frag) (mg : Str → Option Value) (base : Heap) (x : Str) (n : Nat) (dv : List D) (sp : SpX) : Prop where
  ex : ∃ f fd ps ds dvs, FnOk P w K mg base (L2.CX P w) n f fd ps (spOfX K sp) ∧ mg x = some (.ref f) ∧ PySem.W.keepIn K (.ref f) = true ∧ Binds K fd ps ds ∧ Vals dvs ds ∧ ∀ F, IsL K F dv dvs
section
variable {γ : Nat → Addr} {X : Cx} {e : Expr} {es : List Expr} {p pos : Pos} {x : Str}
end
end DL
end
section
set_option Elab.async false
set_option linter.all false
set_option maxRecDepth 100000
/-! the head: classes of exceptions -/
namespace DL
open PySem PySem.W PySem.Calls PyProof.Rows L2 He He5
theorem excK_ok {K : Frag} {x : PySem.Str} (c : tExcK x K = true) : ExcK K (ga K x) := by
  obtain ⟨c1, c⟩ := Bool.and_eq_true_iff.mp c
  obtain ⟨c2, c⟩ := Bool.and_eq_true_iff.mp c
  obtain ⟨c3, c⟩ := Bool.and_eq_true_iff.mp c
  obtain ⟨c4, c5⟩ := Bool.and_eq_true_iff.mp c
  refine ⟨?_, c2, of_decide_eq_true c3, of_decide_eq_true c4, of_decide_eq_true c5⟩
  rcases Bool.or_eq_true_iff.mp c1 with h | h
  · exact ⟨_, _, _, _, PySem.F.excBase_ValueError, h⟩
  · exact ⟨_, _, _, _, PySem.F.excBase_LookupError, h⟩
theorem excC_ok {K : Frag} {x : PySem.Str} (c : tExcC x K = true) : ExcC K (ga K x) := by
  obtain ⟨c1, c⟩ := Bool.and_eq_true_iff.mp c
  obtain ⟨c2, c⟩ := Bool.and_eq_true_iff.mp c
  obtain ⟨c3, c⟩ := Bool.and_eq_true_iff.mp c
  obtain ⟨c4, c⟩ := Bool.and_eq_true_iff.mp c
  obtain ⟨c5, c⟩ := Bool.and_eq_true_iff.mp c
  obtain ⟨c6, c⟩ := Bool.and_eq_true_iff.mp c
  obtain ⟨c7, c8⟩ := Bool.and_eq_true_iff.mp c
  exact ⟨of_decide_eq_true c1, of_decide_eq_true c2, of_decide_eq_true c3, c4, of_decide_eq_true c5, of_decide_eq_true c6, of_decide_eq_true c7, of_decide_eq_true c8⟩
end DL
end
section
set_option Elab.async false
set_option linter.all false
set_option maxRecDepth 100000
set_option maxHeartbeats 1000000
/-! [elt for a in xs for b in ys if ..] -/
namespace DL
open PySem L2 PyProof.Rows
/-- a walk that asks only that what is kept stays -/
structure ItRepW (K : PySem.W.Frag) (J : It) (ds : List D) (F : Hp) : Prop where
  go : ∀ i F' M' H', Same F F' → Ok K F' M' H' → i < ds.length → J.go i H'
  yld : ∀ i F' M' H' v H2, Same F F' → Ok K F' M' H' → i < ds.length → J.yld i H' v H2 → ∃ F2 d, ds[i]? = some d ∧ Stp F' M' H' F2 M' H2 ∧ Ok K F2 M' H2 ∧ Is K F2 d v
  stop : ∀ F' M' H', Same F F' → Ok K F' M' H' → J.stop ds.length H'
def ItW (X : Cx) (tg e : Expr) (Δ : DS) (M : Store) (k : AK) : Prop := ∀ F H σ (R : It → Hp → Prop), IsS X.K F Δ σ → Ok X.K F M H → (∀ ds M' F' H' J, k ds M' → Stp F M H F' M' H' → Ok X.K F' M' H' → ItRepW X.K J ds F' → R J H') → SemI X tg e σ H R
structure IIW (γ : Nat → Addr) (X : Cx) (tg e : Expr) (s : SA) : Prop where
  go : ∀ b u M0 Δ Δr M n (k : AK), SI γ b u M0 Δ Δr M n → wpB b n (s Δ) (fun d n' => ∀ M', Aft b u M M' n' → k (rnL (rho γ u) d) M') → ItW X tg e Δr M k
section
variable {γ : Nat → Addr} {X : Cx} {e tg : Expr} {s : SE}
end
section
variable {X : Cx} {Δ : DS} {M : Store} {ka : AK} {tg tg1 : Expr} {pos : Pos}
end
/-! the program -/
section
variable {γ : Nat → Addr} {X : Cx} {tg tg1 : Expr} {pos : Pos}
end
/-! ### *text -/
section
variable {γ : Nat → Addr} {X : Cx} {e : Expr} {es : List Expr} {te : TE} {t : TA} {p : Pos} {Δ : DS} {M : Store} {s : SE} {A : SA}
end
/-! ### f(a, .., x=b) -/
section
variable {γ : Nat → Addr} {X : Cx} {e : Expr} {es : List Expr} {p pos : Pos} {x : Str} {n : Nat} {F : List D → Pg D} {kws : List Keyword} {kn : List Str}
end
end DL
end
section
set_option Elab.async false
set_option linter.all false
set_option maxRecDepth 100000
set_option maxHeartbeats 2000000
/-! DX: static methods that raise, by keywords and by place; except (A, B) as e; isinstance with a class of one's own -/
namespace DL
open PySem L2 PyProof.Rows
section
variable {X : Cx} {CX : CXT} {k n : Nat} {C q g : Addr} {mc : Value} {f : Addr} {fd : FuncData} {ps ks : List Str} {sp : Sp} {E : L2.St → XK} {x m : Str} {p pos apos : Pos} {e o : Expr} {es : List Expr} {t : TA} {kws : List Keyword} {gg : List Value → List Value → List Value} {gV : List V → List V → List V}
theorem run_fnNX {pins : List (Addr × Obj)} {σ : L2.St} {H : Hp} {s : Shared} {Q : VK} {us ws : List Value} {vs zs : List V} (F : FnOk X.prog X.w X.K X.mg X.base CX k f fd ps sp) (hr : Room k X.A) (hb : KBn X.K fd ps n ks gg gV) (hx : PassesAt CX X σ (E σ))
    (I : Inv X pins σ H s) (r : Vals vs us) (rz : Vals zs ws) (l1 : vs.length = n) (l2 : zs.length = ks.length) (h : sp (gV vs zs) H Q (E σ)) : wpAny (model X.prog X.w) X.A (call (.ref f) us (ks.zip ws)) (EP X pins σ Q) X.xe s := by
  have r2 := hb.rel r rz
  refine wpAny_call (codeAny_mono (F.run X.A X.stack s H ⟨us, ks.zip ws⟩ (gg us ws) (gV vs zs) Q (E σ) hr I.env0 (hb.to s us ws I.kIn (r.length.symm.trans l1) (rz.length.symm.trans l2)) r2 h) fun r s' hq => ?_)
  cases r with
  | error e => exact hx pins H s e s' I hq
  | ok fl =>
    cases fl with
    | ret u => exact I.after hq
    | next => exact False.elim hq
    | brk => exact False.elim hq
    | cont => exact False.elim hq
end
/-- a staticmethod that may raise, called by keywords -/
structure StaKX (P : Program) (w : World) (K : PySem.W.Frag) (mg : Str → Option Value) (base : Heap) (C : Addr) (m : Str) (n : Nat) (ks : List Str) (gD : List D → List D → List D) (sp : SpX) : Prop where
  ex : ∃ f fd ps q g gV, FnOk P w K mg base (L2.CX P w) n f fd ps (spOfX K sp) ∧ ClX.CRead K C (.type "type") ∧ SMet K C (.type "type") m q f ∧ PySem.W.keepIn K (.ref f) = true ∧ KBn K fd ps 0 ks g gV ∧ ∀ F ds vs es ws, IsL K F ds vs → IsL K F es ws → IsL K F (gD ds es) (gV vs ws)
/-- .. and by place -/
structure StaX (P : Program) (w : World) (K : PySem.W.Frag) (mg : Str → Option Value) (base : Heap) (C : Addr) (m : Str) (n : Nat) (sp : SpX) : Prop where
  ex : ∃ f fd ps q, FnOk P w K mg base (L2.CX P w) n f fd ps (spOfX K sp) ∧ ClX.CRead K C (.type "type") ∧ SMet K C (.type "type") m q f ∧ PySem.W.keepIn K (.ref f) = true ∧ Binds K fd ps []
section
variable {X : Cx} {e : Expr} {es : List Expr} {Δ : DS} {M : Store} {k kx : DK} {p pn pos apos : Pos} {x m : Str} {C : Addr} {pl : PySem.Sem Bool} {kws : List Keyword} {kn : List Str} {gD : List D → List D → List D}
theorem ex_staticK0 {n : Nat} {sp : SpX} (S : StaKX X.prog X.w X.K X.mg X.base C m n kn gD sp) (hr : Room n X.A) (hC : X.mg x = some (.ref C)) (hg : Gl X x) (h : EvK X.nox kws Δ M fun ds M1 => ds.length = kn.length ∧ sp (gD [] ds) M1 k kx) (hd : (x == ("__debug__" : Str)) = false := by decide)
    (hall : (backToKw pos (keywordEach kws X.env)).all (·.1.isSome) = true := by rfl) (hks : (backToKw pos (keywordEach kws X.env)).filterMap (·.1) = kn := by rfl)
    (hpl : ((backTo pos (starEach [] X.env)).any (·.1) || (backToKw pos (keywordEach kws X.env)).any (·.1.isNone)) = false := by rfl)
    (ht : eval (.Call (.Attribute (.Name x pn) m apos) [] kws pos) X.env = (do
      let ov ← eval (.Name x pn) X.env
      standAt apos.atName
      let (f, first) ← holding [ov] (getMethod ov m pl)
      callWith pos f first (backTo pos (starEach [] X.env)) (backToKw pos (keywordEach kws X.env))) := by rfl) : EvDX X (.Call (.Attribute (.Name x pn) m apos) [] kws pos) Δ M k kx := fun F H σ Q W hS ok post px tk pins s I => by
  obtain ⟨f, fd, ps, q, g, gV, hF, hc, hm, hk, hb, hi⟩ := S.ex
  refine PySem.W.methodCall_KW (pl := pl) (ld_glob I hg hC ?_ hd) ht
  refine getsmeth_ok I hc hm fun s2 I2 => ?_
  refine PySem.W.callWith_KW0 (h₀ := X.base) I2.ok.mod.kin hk hall ?_ hpl
  have ev := h F H σ (fun zs H2 => zs.length = kn.length ∧ spOfX X.K sp (gV [] zs) H2 Q (WE W σ)) hS ok (fun ds M1 F1 H1 vs ⟨hl, q⟩ st ok1 il => ⟨by rw [← il.length]; exact hl, gD [] ds, F1, M1, k, kx, hi F1 _ _ _ _ IsL.nil il, ok1, q, post.step st, px.step st⟩) pos pins s2 (I2.wish _)
  refine wpAny_mono ev (fun ws s3 ⟨zs, H2, I3, rz, l2, q2⟩ => ?_) fun _ _ z => z.elim
  have I3 := I3.unwish
  refine ⟨I3.kIn, ?_⟩
  rw [hks]
  exact run_fnNX (us := []) (vs := []) hF hr hb (passAt tk σ) I3 .nil rz rfl l2 q2
end
section
variable {γ : Nat → Addr} {X : Cx} {e : Expr} {es : List Expr} {p pn pos apos : Pos} {x m : Str} {kws : List Keyword} {kn : List Str} {pl : PySem.Sem Bool}
theorem x_staticK0 {n kl c0 : Nat} {F : List D → Pg D} {t : SA} {g : List D → List D → List D} (S : StaKX X.prog X.w X.K X.mg X.base (γ c0) m n kn g (spWX γ [] F)) (hr : Room n X.A) (hC : X.mg x = some (.ref (γ c0))) (hg : Gl X x) (og : Ord g) (h : IK γ X.nox kws t) (hd : (x == ("__debug__" : Str)) = false := by decide)
    (hall : (backToKw pos (keywordEach kws X.env)).all (·.1.isSome) = true := by rfl) (hks : (backToKw pos (keywordEach kws X.env)).filterMap (·.1) = kn := by rfl)
    (hpl : ((backTo pos (starEach [] X.env)).any (·.1) || (backToKw pos (keywordEach kws X.env)).any (·.1.isNone)) = false := by rfl)
    (ht : eval (.Call (.Attribute (.Name x pn) m apos) [] kws pos) X.env = (do
      let ov ← eval (.Name x pn) X.env
      standAt apos.atName
      let (f, first) ← holding [ov] (getMethod ov m pl)
      callWith pos f first (backTo pos (starEach [] X.env)) (backToKw pos (keywordEach kws X.env))) := by rfl) (hkl : kn.length = kl := by rfl) : IEX γ X (.Call (.Attribute (.Name x pn) m apos) [] kws pos) (cCallK F g kl aN (sfA t)) := .mk fun b u M0 Δ Δr M n k kx S0 w => by
  refine ex_staticK0 (pl := pl) S hr hC hg (h.go b u M0 Δ Δr M n _ S0 ((noX_wp (wpX_bind.1 (show wpX b n (((sfA t) Δ).bind _) _ _ from w))).mono fun es n1 w1 M1 A1 => ?_)) hd hall hks hpl ht
  split at w1
  · rename_i hl
    refine ⟨by rw [rnL_len, hkl]; exact hl, b, u, g [] es, n1, ?_, A1.urn, w1.mono (fun d n3 q M3 A3 => q M3 (A1.trans A3)) fun d n3 q M3 A3 => q M3 (A1.trans A3)⟩
    exact VwL0 (by rw [← og.rn, rnL_nil])
  · exact w1.elim
end
end DL
end
section
set_option Elab.async false
set_option linter.all false
set_option maxRecDepth 100000
set_option maxHeartbeats 2000000
/-! DX: except (A, B) as e: what was caught is kept -/
namespace DL
open PySem PySem.Spec L2 PyProof.Rows
theorem flyZ_keeps {B h h' : Heap} {l : List Env} {e : Addr} {Z : Obj → Prop} (R : HandSPX.FlyingZ B l e Z h) (k : ∀ b o, h.get? b = some o → h'.get? b = some o) : HandSPX.FlyingZ B l e Z h' := by
  obtain ⟨f1, f2, f3, oe, ws, T, oT, ts, he, hz, hd, h1, hn, hne, hT, hdT, h3⟩ := R
  exact ⟨fun b o q => k b o (f1 b o q), f2, f3.of_keeps fun b o q _ => ⟨o, k b o q, rfl⟩, oe, ws, T, oT, ts, k _ _ he, hz, hd, h1, hn, hne, k _ _ hT, hdT, h3⟩
/-- as the kit's wAs; behind the suite the exception is tracked -/
def wKeepT (K : PySem.W.Frag) (c c2 : Value) (i : Nat) (ts : Addr → Value → Option Addr → TS) (Wout : WX) (D : Ends) : WX := fun cls d σ H => ∃ (b : Bool) (C : Addr), cls = .ref C ∧ PySem.W.exmAny K cls [c, c2] = some b ∧
  (b = true → ∀ a, H a = none → ts a cls d { nx := fun σ' H' => D.nx (σ'.set i none) (upd H' a (ExT C d a)), rt := fun _ _ => False, bk := fun _ _ => False, ct := fun _ _ => False } (σ.set i (some (.ref a))) H) ∧ (b = false → Wout cls d σ H)
section
variable {X : Cx} {x x2 n : Str} {c c2 : Value} {kk : Nat} {np2 tpos : Pos} {i : Nat} {body suite : List Stmt} {b₀ : Stmt} {np pos pos' : Pos} {tb : WX → TS} {ts : Addr → Value → Option Addr → TS} {Wout : WX}
theorem ps_try_keepT (hs : X.stack = X.env :: X.outer) (hf : X.env.frame = some X.env.locals) (hex : X.ex = []) (hN : X.N.Nodup) (hi : X.N[i]? = some n) (hln : X.env.kindOf n = some .local) (hc : Names X x c) (hc2 : Names X x2 c2) (tk : Takes X Wout)
    (hb : ∀ (W : WX) (pn : List (Addr × Obj)) (xe : Value → Shared → Prop), Takes (X.tr pn xe) W → PassesOwn (model X.prog X.w) X.A X.env xe → PSs (X.tr pn xe) body (tb W))
    (hsu : ∀ (a : Addr) (oe : Obj) (cls : Value) (d : Option Addr) (pn : List (Addr × Obj)), Zc cls d oe → (∃ vs, oe.data = .fields vs) → PSs (X.suite a ((a, oe) :: pn)) (b₀ :: suite) (ts a cls d)) :
    PS X (.Try body [.ExceptHandler (some (.Tuple [.Name x np, .Name x2 np2] kk tpos)) (some n) (b₀ :: suite) pos'] [] [] pos) (fun D σ H => tb (wKeepT X.K c c2 i ts Wout D) D σ H) := by
  refine ⟨fun pins s σ H D I hw => ?_⟩
  have ok := I.ok
  have hfr : X.A.frames = some (X.env :: X.outer) := by rw [ok.frames, hs]
  have hloc : Loc X.env.scope n := .inl hln
  refine wpAny_Try_except ?_
  have run := (hb (wKeepT X.K c c2 i ts Wout D) (X.pn ++ pins) (fun e s₁ => wpAny (model X.prog X.w) X.A (noteFrame e X.env) (fun _ s₂ => wpAny (model X.prog X.w) X.A (setFlight e none) (fun _ s₃ => wpAny (model X.prog X.w) X.A
    (handleBy e X.env [.ExceptHandler (some (.Tuple [.Name x np, .Name x2 np2] kk tpos)) (some n) (b₀ :: suite) pos']) (L2.SP X pins D) X.xe s₃) X.xe s₂) X.xe s₁) (fun u s' xx => ?_) PassesOwn.looking).run [] s σ H D (I.toTry _) hw
  refine wpAny_mono run (fun f s1 hsp => ?_) (fun e s1 he => he)
  · cases f with
    | next => obtain ⟨σ', H', J', q⟩ := hsp; exact wpAny_execs_nil ⟨σ', H', J'.ofTry ok, q⟩
    | brk => obtain ⟨σ', H', J', q⟩ := hsp; exact ⟨σ', H', J'.ofTry ok, q⟩
    | cont => obtain ⟨σ', H', J', q⟩ := hsp; exact ⟨σ', H', J'.ofTry ok, q⟩
    | ret u => obtain ⟨v, σ', H', J', r, q⟩ := hsp; exact ⟨v, σ', H', J'.ofTry ok, r, q⟩
  · obtain ⟨a, B, sI, pins', σ', H', cls, d, rfl, J', nb, up, sky, na, os, ag, b, C, eC, hb1, hyes, hno⟩ := xx
    have J : Inv X pins σ' H' sI := J'.ofTry ok
    have sky' : Sky B (X.env :: X.outer) a (Zc cls d) X.env.locals s'.heap := by rw [← hs]; exact sky
    have bn : B.get? a = none := by
      rcases sky with ⟨_, z, _⟩ | fl | hd
      · exact z
      · exact fl.2.1
      · exact hd.2.1
    show wpAny (model X.prog X.w) X.A (noteFrame (.ref a) X.env) _ _ _
    refine Sky.land Zc.steady hfr hf sky' fun h3 fl3 up3 => ?_
    have J3 : Inv X pins σ' H' { s' with heap := h3 } := J.landed nb fl3.1 (up.trans up3) os ag
    obtain ⟨oe3, vs3, he3, hz3, hd3⟩ := fl3.there
    have nfr : a ∉ frs (X.env :: X.outer) := fun hm => by
      obtain ⟨_, o', e', hnf⟩ := fl3.2.2.1.mem hm
      rw [he3] at e'; cases e'
      exact hnf _ hd3
    have nL : a ≠ X.env.locals := fun z => nfr (List.mem_filterMap.mpr ⟨X.env, List.mem_cons_self, by rw [hf, z]⟩)
    have nF : a ∉ X.fs := fun hm => by
      obtain ⟨e, he, q⟩ := List.mem_filterMap.mp hm
      exact nfr (List.mem_filterMap.mpr ⟨e, List.mem_cons_of_mem _ he, q⟩)
    have nI : sI.heap.get? a = none := by
      cases q : sI.heap.get? a with
      | none => rfl
      | some o =>
        have z := nb a o q (by rw [hs]; exact nfr)
        rw [bn] at z; cases z
    have n0 : X.s_0.heap.get? a = none := by
      cases q : X.s_0.heap.get? a with
      | none => rfl
      | some o =>
        obtain ⟨o', z⟩ := J.base.there a o q (by rw [hex]; exact fun z => nomatch z)
        rw [nI] at z; cases z
    have np' : ∀ p ∈ X.pn ++ pins, p.1 ≠ a := fun p hp z => by
      have q := (J.pin p hp).1
      rw [z, nI] at q; cases q
    have S3 := J3.suite he3 hd3 na nL nF
    refine wpAny_handleBy_cons (codeAny_handlers_test ?_) (by intro q; cases q)
    have LT : PySem.W.Looks (model X.prog X.w) h3 (typeOf (.ref a)) cls := fun A Q E s k q => wpAny_typeOf_ref (k _ _ he3) (by rw [hz3.1]; exact q)
    have test : ∀ {x : Str} {np : Pos} {c : Value} {Q : Value → Shared → Prop} {E : Value → Shared → Prop}, Names X x c → Q c { s' with heap := h3 } → wpAny (model X.prog X.w) (X.A.mark (some (.ref a))) (eval (.Name x np) X.env) Q E { s' with heap := h3 } := fun {x np c Q E} hc q => by
      obtain ⟨hg, hdbg, hm | ⟨hm, hv, hnn⟩⟩ := hc
      · exact ld_glob (X := X.suite a ((a, oe3) :: (X.pn ++ pins))) S3 hg hm q hdbg
      · exact ld_blt (X := X.suite a ((a, oe3) :: (X.pn ++ pins))) S3 hg hm hv q hnn hdbg
    refine wpAny_Tuple ?_
    refine wpAny_items_cons (test hc ?_)
    refine wpAny_items_cons (test hc2 ?_)
    refine wpAny_items_nil ⟨by size_fits, ?_⟩
    have kp : ∀ q o, h3.get? q = some o → (h3.push { cls := .type "tuple", data := .seq [c, c2].toArray }).get? q = some o := fun _ _ z => Heap.get?_push_of_some _ z
    have LM := PySem.W.exm_tup2 (M := model X.prog X.w) ((J3.kIn).keeps kp) (LT.keeps kp) (Heap.get?_push_size h3 rfl) hb1
    have fl3 := flyZ_keeps fl3 kp
    have up3 := up3.trans (Heap.UpToSlots.of_keeps kp)
    refine LM.here ?_
    cases b with
    | true =>
      refine codeAny_handlers_suite_as ?_
      refine HandSPX.lands_againZ fl3 fun h4 fl4 up4 => ?_
      have J4 : Inv X pins σ' H' { s' with heap := h4 } := J.landed nb fl4.1 ((up.trans up3).trans up4) os ag
      obtain ⟨oe4, vs4, he4, hz4, hd4⟩ := fl4.there
      have S4 := J4.suite he4 hd4 na nL nF
      refine store_ok (X := X.suite a ((a, oe4) :: (X.pn ++ pins))) (v := .ref a) S4 hN hi hloc rfl (fun s5 S5 => ?_) (.inr hln)
      refine wpAny_mono ((hsu a oe4 cls d (X.pn ++ pins) hz4 ⟨_, hd4⟩).run [] s5 _ H' _ S5 (hyes rfl a na)) (fun f s6 hsp => ?_) (fun _ _ z => z.elim)
      cases f with
      | next =>
        obtain ⟨σ6, H6, S6, q6⟩ := hsp
        obtain ⟨z1, z2, _⟩ := S6.pin (a, oe4) (by rw [List.append_nil]; exact List.mem_cons_self ..)
        have J6 := Inv.track (o := ExT C d a) (S6.unsuite ok) z1 hd4 z2 n0 nL np' (exT_ok z1 (by rw [hz4.1, eC]) hz4.2 hd4)
        exact gone_ok J6 hN hi hln fun s7 J7 => ⟨_, _, J7, q6⟩
      | brk =>
        obtain ⟨σ6, H6, S6, q6⟩ := hsp
        exact q6.elim
      | cont =>
        obtain ⟨σ6, H6, S6, q6⟩ := hsp
        exact q6.elim
      | ret u =>
        obtain ⟨v6, σ6, H6, S6, r6, q6⟩ := hsp
        exact q6.elim
    | false =>
      show wpAny _ X.A (handleBy (.ref a) X.env []) _ _ _
      refine wpAny_handleBy_nil ?_
      obtain ⟨k1, k2, k3, oe, vs, T, oT, ts', he, hz, hd, h1, hr⟩ := id fl3
      unfold PySem.passOn
      refine wpAny_bind (wpAny_field he hd h1 ?_)
      rw [if_neg (show ¬ ((Value.ref T == Value.none) = true) from by simp)]
      have fin : wpAny (model X.prog X.w) X.A (setFlight (.ref a) X.env.frame) (fun _ s4 => wpAny (model X.prog X.w) X.A (throw (.ref a) : PySem.Sem Flow) (L2.SP X pins D) X.xe s4) X.xe { s' with heap := h3.push { cls := .type "tuple", data := .seq [c, c2].toArray } } := by
        rw [hf]
        refine HandSPX.setFlight_upZ fl3 fun h4 hh4 up4 => wpAny_throw (tk _ _ ?_)
        exact ⟨a, B, sI, pins, σ', H', cls, d, rfl, J, nb, (up.trans up3).trans up4, .inr (.inr (by rw [hs]; exact hh4)), na, os, ag, hno rfl⟩
      first
        | exact wpAny_bind (wpAny_pure (wpAny_bind fin))
        | exact wpAny_bind fin
end
end DL
end
section
set_option Elab.async false
set_option linter.all false
set_option maxRecDepth 100000
set_option maxHeartbeats 1000000
/-! DX: try: st, except (A, B) as n: y = n; isinstance with an exception class of one's own -/
namespace DL
open PySem L2 PyProof.Rows
def tTryT (cs : List Nat) (i j : Nat) (t : ST) : ST := fun Δ => if j < Δ.length then catchP (fun d => match d with
  | .exc C fs ds => if (cs.any fun c => C == c + 1) = true then .ret (.nx ((wipeS Δ [j]).set i (.v (.exc C fs ds)))) else .fail
  | _ => .fail) (t Δ) else .fail
section
variable {γ : Nat → Addr} {X : Cx} {st : Stmt} {t : ST}
theorem s_tryT {Δ : DS} {M : Store} {ks : KS} {C1 C2 : Addr} {i j kk : Nat} {x x2 n y : Str} {np np1 yp np2 ap pos pos' tpos : Pos} (hs : X.stack = X.env :: X.outer) (hf : X.env.frame = some X.env.locals) (hex : X.ex = []) (hN : X.N.Nodup) (hi : X.N[i]? = some y) (hj : X.N[j]? = some n) (hij : i ≠ j) (hjl : j < Δ.length)
    (hln : X.env.kindOf n = some .local) (hly : X.env.scope.names.lookup y = some .local) (hvn : Vis X.env.scope n) (hd1 : (n == ("__debug__" : Str)) = false) (hd2 : (n == ("__classdict__" : Str)) = false) (hly2 : Loc X.env.scope y) (hc : Names X x (.ref C1)) (hc2 : Names X x2 (.ref C2))
    (hsw : ∀ (env : Env), swapsWith (.Name n np2) (some (.Name y yp)) ap.line env = pure false)
    (h : ∀ pn xe, StD1 (X.tr pn xe) st Δ M ks fun d M' => ∃ C fs ds, d = .exc C fs ds ∧ PySem.W.exmAny X.K (.ref C) [.ref C1, .ref C2] = some true ∧ ks.nx ((Δ.set j none).set i (some d)) M') :
    StD X (.Try [st] [.ExceptHandler (some (.Tuple [.Name x np, .Name x2 np1] kk tpos)) (some n) [.Assign [.Name y yp] (.Name n np2) ap] pos'] [] [] pos) Δ M ks := fun F H σ Q hS ok post => by
  have key := ps_try_keepT (X := X) (pos := pos) (pos' := pos') (np := np) (np2 := np1) (kk := kk) (tpos := tpos) (suite := []) (b₀ := .Assign [.Name y yp] (.Name n np2) ap) (body := [st]) (Wout := fun _ _ _ _ => False) (ts := fun a cls d => L2.tAsg (L2.tVar j) (gName i)) (tb := fun W D σ H => ∀ pn xe, Takes (X.tr pn xe) W → SemSs (X.tr pn xe) [st] D σ H) hs hf hex hN hj hln hc hc2 takes0
    (fun W pn xe tk _ => ⟨fun pins s σ H D I q => q pn xe tk pins s I⟩) (fun a oe cls d pn hz hf' => pss_one (ps_set (X := X.suite a ((a, oe) :: pn)) hN hi hly2 (pe_var hj hvn hd1 hd2) (hsw _) (.inr hly)))
  refine semS_of key fun pn xe tk => ?_
  refine semSs_of (pss_one ps_sem) (h pn xe F H σ Q _ hS ok post ?_ tk)
  rintro C' fs ds M' F' H' od vs ⟨C, fs', ds', e, me, hnx⟩ stp ok' hdict hlen il
  cases e
  refine ⟨true, C', rfl, me, fun _ a na => ?_, fun z => nomatch z⟩
  have hlj : j < σ.length := by rw [← hS.1]; exact hjl
  obtain ⟨ok2, st2⟩ := ok'.new (o := ExT C' od a) na
  refine ⟨.ref a, List.getElem?_set_self hlj, ?_⟩
  refine post.nx _ M' (upd F' a (ExT C' od a)) _ _ hnx (stp.trans st2) ok2 ?_
  have ext := stp.ext.trans st2.ext
  exact isS_caught (hS.mono ext) hij (is_exc.2 ⟨a, od, vs, rfl, upd_same, hdict.mono st2.ext, hlen, il.mono st2.ext⟩)
theorem r_tryT {cs : List Nat} {c1 c2 i j kk : Nat} {x x2 n y : Str} {np np1 yp np2 ap pos pos' tpos : Pos} (T : ∀ c ∈ cs, PySem.W.exmAny X.K (.ref (γ c)) [.ref (γ c1), .ref (γ c2)] = some true) (gx : X.mg x = some (.ref (γ c1))) (hg : Gl X x) (gx2 : X.mg x2 = some (.ref (γ c2))) (hg2 : Gl X x2) (hN : X.N.Nodup) (hi : X.N[i]? = some y) (hj : X.N[j]? = some n) (hij : i ≠ j)
    (hln : X.env.kindOf n = some .local) (hly : X.env.scope.names.lookup y = some .local) (hvn : Vis X.env.scope n) (hly2 : Loc X.env.scope y) (h : ∀ pn xe, IS1 γ (X.tr pn xe) st t)
    (hs : X.stack = X.env :: X.outer := by rfl) (hf : X.env.frame = some X.env.locals := by rfl) (hex : X.ex = [] := by rfl) (hd1 : (n == ("__debug__" : Str)) = false := by decide) (hd2 : (n == ("__classdict__" : Str)) = false := by decide) (hdx : (x == ("__debug__" : Str)) = false := by decide) (hdx2 : (x2 == ("__debug__" : Str)) = false := by decide)
    (hsw : ∀ (env : Env), swapsWith (.Name n np2) (some (.Name y yp)) ap.line env = pure false := by intro _; rfl) :
    IS γ X (.Try [st] [.ExceptHandler (some (.Tuple [.Name x np, .Name x2 np1] kk tpos)) (some n) [.Assign [.Name y yp] (.Name n np2) ap] pos'] [] [] pos) (tTryT cs i j t) := .mk fun b u M0 Δ Δr M m ks S w => by
  unfold tTryT at w
  split at w
  · rename_i hjl
    refine s_tryT hs hf hex hN hi hj hij (by rw [← S.rel.len]; exact hjl) hln hly hvn hd1 hd2 hly2 ⟨hg, hdx, .inl gx⟩ ⟨hg2, hdx2, .inl gx2⟩ hsw fun pn xe => (h pn xe).go b u M0 Δ Δr M m ks _ S ((catch_wp w).mono (fun _ _ q => q) fun d n1 w1 M1 A1 => ?_)
    split at w1
    · rename_i C fs ds
      split at w1
      · rename_i hC
        obtain ⟨c, hc, e⟩ := List.any_eq_true.mp hC
        have e := eq_of_beq e
        subst e
        refine ⟨γ c, fs, rnL (rho γ u) ds, by rw [rn_exc]; rfl, T c hc, w1 _ M1 ?_⟩
        have S1 := S.aft A1
        exact ⟨(S1.rel.wipe [j]).setV i _, S1.urn, S1.k0⟩
      · exact w1.elim
    · exact w1.elim
  · exact w.elim
end
section
variable {X : Cx} {C C2 : Addr}
theorem call_isXo (T : ExcC X.K C) : CallR X (.builtin "isinstance") (fun xs H Q => ∃ (a C2 : Addr) (od : Option Addr) (b : Bool), xs = [.ref a, .ref C2] ∧ od = none ∧ H a = some (ExT C od a) ∧ PySem.W.kitOne X.K (.ref C) (.ref C2) = some b ∧ Q (.bl b) H) := by
  intro pins s σ H xs us Q I r h
  obtain ⟨a, C2, od, b, rfl, rfl, ha, e, q⟩ := h
  obtain ⟨⟨oe, vs, ho, hc, hd, hf⟩, _, _⟩ := I.hok a _ ha
  cases r with
  | cons rx rr =>
    cases rr with
    | cons rt rr =>
      cases rr
      cases rx
      cases rt
      have J : PySem.W.InstAt s.heap a oe C none := by
        obtain ⟨oc, odd, oda, osl⟩ := oe
        dsimp only at hc hd hf
        subst hc hd hf
        exact ⟨ho, rfl, rfl, trivial⟩
      exact PySem.W.kia_one (PySem.W.handS_kitx_exc T.hg T.hk T.hs T.hd T.ha T.hn T.ht T.hm) I.kIn J e (fun z => nomatch z) fun tk => ⟨.bl b, H, I.kept (t' := tk) fun _ _ z => z, rfl, q⟩
end
theorem i_isXo {γ : Nat → Addr} {X : Cx} {e : Expr} {s : SE} {c c2 : Nat} {b : Bool} {x : Str} {p p2 pos : Pos} (T : ExcC X.K (γ c)) (hk : PySem.W.kitOne X.K (.ref (γ c)) (.ref (γ c2)) = some b) (hg : Gl X "isinstance") (hm : X.mg "isinstance" = none) (gx : X.mg x = some (.ref (γ c2))) (hgx : Gl X x) (h : IE γ X e s)
    (hs : starEach [e, .Name x p2] X.env = (false, eval e X.env) :: starEach [.Name x p2] X.env := by rfl) (hs2 : starEach [.Name x p2] X.env = [(false, eval (.Name x p2) X.env)] := by rfl) (hpl : (backTo pos (starEach [.Name x p2] X.env)).any (·.1) = false := by rfl) (hdb : (x == ("__debug__" : Str)) = false := by decide) : IE γ X (.Call (.Name "isinstance" p) [e, .Name x p2] [] pos) (cIsX c b s) := .mk fun bb u M0 Δ Δr M n k S w => by
  refine ev_callB (call_isXo T) hg hm (by decide +kernel) (by decide) (by decide) hs hpl (two2 (h.go bb u M0 Δ Δr M n _ S ((wpB_bind.1 w).mono fun d n1 w1 M1 A1 => ev_gC (k := fun d2 M2 => PB X _ [rn (rho γ u) d, d2] M2 k) gx hgx ?_ hdb)) hs hs2)
  split at w1
  · split at w1
    · rename_i C hC
      subst hC
      have hk2 := w1 M1 A1
      rw [rn_bl] at hk2
      intro F H vs Q ok il post
      obtain ⟨v, r, rfl, i1, i2⟩ := isL_cons.1 il
      obtain ⟨v2, rfl, i3⟩ := isL1 i2
      rw [rn_exc, rnL_nil] at i1
      obtain ⟨a, od, ws, rfl, hF, hD, hl, iw⟩ := is_exc.1 i1
      rw [is_cell.1 i3]
      rw [isL_nil.1 iw] at hD
      cases od with
      | some dd =>
        exact (hD.1 rfl).elim
      | none =>
        have hH : H a = some (ExT (γ c) none a) := by
          rcases ok.sub a _ hF with z | ⟨_, _, z, _⟩
          · exact z
          · cases z
        exact ⟨a, _, none, b, rfl, rfl, hH, hk, post.here ok hk2 (is_bl.2 rfl)⟩
    · exact w1.elim
  · exact w1.elim
end DL
end
section
set_option Elab.async false
set_option linter.all false
set_option maxRecDepth 100000
set_option maxHeartbeats 1000000
/-! DP: d.pop(k, x) of a dict of one's own -/
namespace DL
open PySem L2
def dropKD : List Key → List D → Key → List Key × List D
  | k :: ks, d :: ds, c => if k = c then dropKD ks ds c else (k :: (dropKD ks ds c).1, d :: (dropKD ks ds c).2)
  | _, _, _ => ([], [])
theorem drop_is {K : PySem.W.Frag} {F : Hp} {c : Key} : ∀ {ks : List Key} {ds : List D} {vs : List V}, ks.length = ds.length → IsL K F ds vs →
    ∃ vs', dropK (ks.zip vs) c = (dropKD ks ds c).1.zip vs' ∧ (dropKD ks ds c).1.length = (dropKD ks ds c).2.length ∧ IsL K F (dropKD ks ds c).2 vs'
  | [], [], _, _, i => by
    rw [isL_nil.1 i]
    exact ⟨[], rfl, rfl, IsL.nil⟩
  | [], _ :: _, _, l, _ => by cases l
  | _ :: _, [], _, l, _ => by cases l
  | k :: ks, d :: ds, vs, l, i => by
    obtain ⟨v, ws, rfl, i1, i2⟩ := isL_cons.1 i
    obtain ⟨vs', e1, e2, e3⟩ := drop_is (c := c) (by simpa using l) i2
    by_cases e : k = c
    · have a : dropKD (k :: ks) (d :: ds) c = dropKD ks ds c := by rw [dropKD, if_pos e]
      rw [a]
      refine ⟨vs', ?_, e2, e3⟩
      rw [← e1]
      unfold dropK
      rw [List.zip_cons_cons, List.filter_cons_of_neg (by simp [e])]
    · have a : dropKD (k :: ks) (d :: ds) c = (k :: (dropKD ks ds c).1, d :: (dropKD ks ds c).2) := by rw [dropKD, if_neg e]
      rw [a]
      refine ⟨v :: vs', ?_, by simp [e2], isL_cons.2 ⟨v, vs', rfl, i1, e3⟩⟩
      show _ = (k, v) :: (dropKD ks ds c).1.zip vs'
      rw [← e1]
      unfold dropK
      rw [List.zip_cons_cons, List.filter_cons_of_pos (by simp [e])]
theorem dropKD_rn {ρ : Nat → Addr} {c : Key} : ∀ (ks : List Key) (ds : List D), dropKD ks (rnL ρ ds) c = ((dropKD ks ds c).1, rnL ρ (dropKD ks ds c).2)
  | [], [] => by unfold rnL dropKD; rfl
  | [], _ :: _ => by unfold rnL dropKD; rfl
  | _ :: _, [] => by unfold rnL dropKD; rfl
  | k :: ks, d :: ds => by
    have ih := dropKD_rn (ρ := ρ) (c := c) ks ds
    show dropKD (k :: ks) (rn ρ d :: rnL ρ ds) c = _
    by_cases e : k = c
    · rw [dropKD, if_pos e, ih, dropKD, if_pos e]
    · rw [dropKD, if_neg e, ih, dropKD, if_neg e]
      rfl
section
variable {X : Cx} {Δ : DS} {M : Store} {a b e e2 o : Expr} {k : DK} {pos apos : Pos}
theorem ev_popD (h : EvD X o Δ M fun d M1 => ∃ q kk ds, d = .cell q ∧ M1 q = some (.dct kk ds) ∧ EvD X e Δ M1 fun d2 M2 => ∃ c, keyOf d2 = some c ∧ EvD X e2 Δ M2 fun d3 M3 => ∃ kk' ds', M3 q = some (.dct kk' ds') ∧ (match valD kk' ds' c with | some r => k r (mup M3 q (.dct (dropKD kk' ds' c).1 (dropKD kk' ds' c).2)) | none => k d3 M3)) (m : M2 X o "pop" apos e e2 pos := by exact ⟨rfl, rfl, rfl, rfl⟩) :
    EvD X (.Call (.Attribute o "pop" apos) [e, e2] [] pos) Δ M k := fun F H σ Q hS ok post => by
  refine sem_of (pe_dpop2 pe_sem pe_sem pe_sem m) ?_
  refine h F H σ _ hS ok fun d M1 F1 H1 v ⟨q, kk, ds, ed, hM, h2⟩ st ok1 i => ?_
  subst ed
  obtain ⟨vs, hq, _, _⟩ := dct_of ok1 hM
  refine ⟨q, is_cell.1 i, .inl ⟨_, .inl hq⟩, h2 F1 H1 σ _ (hS.mono st.ext) ok1 fun d2 M2 F2 H2 y ⟨c, hc, h3⟩ st2 ok2 i2 => h3 F2 H2 σ _ ((hS.mono st.ext).mono st2.ext) ok2 fun d3 M3 F3 H3 z ⟨kk', ds', hM3, hk⟩ st3 ok3 i3 => ?_⟩
  obtain ⟨vs', hq', hl', il'⟩ := dct_of ok3 hM3
  have w := val_is (q := c) hl' il'
  have st' := (st.trans st2).trans st3
  refine ⟨_, c, hq', key_is hc (i2.mono st3.ext), fun v hv => ?_, fun hv => ?_⟩
  · cases hd : valD kk' ds' c with
    | some r =>
      rw [hd] at hk
      obtain ⟨u, h1, h2⟩ := w.1 r hd
      rw [h1] at hv
      cases hv
      obtain ⟨us, p1, p2, p3⟩ := drop_is (c := c) hl' il'
      have wr := ok3.write (m := .dct (dropKD kk' ds' c).1 (dropKD kk' ds' c).2) (o := .dK (dropK (kk'.zip vs') c)) hM3 ⟨us, congrArg HO.dK p1, p2, p3⟩
      exact post _ _ F3 _ _ hk (st'.trans wr.2) wr.1 h2
    | none =>
      rw [w.2 hd] at hv; cases hv
  · cases hd : valD kk' ds' c with
    | some r =>
      obtain ⟨u, h1, h2⟩ := w.1 r hd
      rw [h1] at hv; cases hv
    | none =>
      rw [hd] at hk
      exact (post.step st').here ok3 hk i3
end
section
variable {γ : Nat → Addr} {X : Cx} {x : Str} {e e2 : Expr} {t r : SE} {pos apos : Pos}
def xPopD (i : Nat) (t r : SE) : SX := fun Δ => (ofO (ownD Δ i)).bind fun p => (t Δ).bind fun y => (ofO (keyOf y)).bind fun c => (r Δ).bind fun z => match valD p.1 p.2 c with | some v => .ret (v, Δ.set i (.o (.dct (dropKD p.1 p.2 c).1 (dropKD p.1 p.2 c).2))) | none => .ret (z, Δ)
theorem x_popD {i : Nat} {px : Pos} (hN : X.N[i]? = some x) (hv : Vis X.env.scope x) (hd : (x == ("__debug__" : Str)) = false) (hcd : (x == ("__classdict__" : Str)) = false) (he : IE γ X e t) (h2 : IE γ X e2 r) (m : M2 X (.Name x px) "pop" apos e e2 pos := by exact ⟨rfl, rfl, rfl, rfl⟩) : IX γ X (.Call (.Attribute (.Name x px) "pop" apos) [e, e2] [] pos) (xPopD i t r) := .mk fun b u M0 Δ Δr M n k S w => by
  obtain ⟨p, h0, w1⟩ := wpB_ofO (wpB_bind.1 w)
  obtain ⟨q, hq, hM⟩ := S.own (ownD_is h0)
  refine ev_popD (ev_var hN hv hd hcd hq ⟨q, _, _, rfl, hM, he.go b u M0 Δ Δr M n _ S ((wpB_bind.1 w1).mono fun y n2 w2 M2 A2 => ?_)⟩) m
  obtain ⟨c, hk, w2⟩ := wpB_ofO (wpB_bind.1 w2)
  refine ⟨c, by rw [keyOf_rn hk]; exact hk, h2.go b u M0 Δ Δr M2 n2 _ (S.aft A2) ((wpB_bind.1 w2).mono fun z n3 w3 M3 A3 => ?_)⟩
  have S3 := (S.aft A2).aft A3
  obtain ⟨q', hq', hM'⟩ := S3.own (ownD_is h0)
  rw [hq] at hq'
  cases hq'
  refine ⟨_, _, hM', ?_⟩
  rw [valD_rn]
  cases hv2 : valD p.1 p.2 c with
  | some r0 =>
    rw [hv2] at w3
    have w5 := w3 _ (S3.upd (m' := .dct (dropKD p.1 p.2 c).1 (dropKD p.1 p.2 c).2) (ownD_is h0) hq)
    show k (rn (rho γ u) r0) (mup M3 q (.dct (dropKD p.1 (rnL (rho γ u) p.2) c).1 (dropKD p.1 (rnL (rho γ u) p.2) c).2))
    rw [dropKD_rn]
    exact w5
  | none =>
    rw [hv2] at w3
    exact w3 _ S3
end
end DL
end
section
set_option Elab.async false
set_option linter.all false
set_option maxRecDepth 100000
set_option maxHeartbeats 1000000
/-! DP: max of a list of numbers -/
namespace DL
open PySem L2
def maxI : List Int → Option Int
  | [] => none
  | x :: xs => some (xs.foldl max x)
theorem foldmax : ∀ (xs : List Int) (x : Int), (xs.foldl max x ∈ x :: xs) ∧ ∀ y ∈ x :: xs, y ≤ xs.foldl max x
  | [], x => ⟨List.mem_cons_self .., fun y hy => by rw [List.mem_singleton.mp hy]; exact Int.le_refl _⟩
  | z :: xs, x => by
    obtain ⟨h1, h2⟩ := foldmax xs (max x z)
    have a := h2 (max x z) (List.mem_cons_self ..)
    show xs.foldl max (max x z) ∈ x :: z :: xs ∧ ∀ y ∈ x :: z :: xs, y ≤ xs.foldl max (max x z)
    refine ⟨?_, fun y hy => ?_⟩
    · rcases List.mem_cons.mp h1 with h1 | h1
      · rw [h1]
        by_cases c : x ≤ z
        · rw [Int.max_eq_right c]; simp
        · rw [Int.max_eq_left (by omega)]; simp
      · simp [h1]
    · rcases List.mem_cons.mp hy with rfl | hy
      · omega
      rcases List.mem_cons.mp hy with rfl | hy
      · omega
      · exact h2 y (List.mem_cons_of_mem _ hy)
theorem maxI_is {ns : List Int} {m : Int} (h : maxI ns = some m) : 0 < ns.length ∧ m ∈ ns ∧ ∀ y ∈ ns, y ≤ m := by
  cases ns with
  | nil => cases h
  | cons x xs =>
    have h : some (xs.foldl max x) = some m := h
    cases h
    exact ⟨Nat.succ_pos _, (foldmax xs x).1, (foldmax xs x).2⟩
def maxLO (d : D) : Option D := (lsV d).bind fun ds => (unI ds).bind fun ns => (maxI ns).map D.int
section
variable {X : Cx} {e : Expr} {Δ : DS} {M : Store} {k : DK} {p pos : Pos}
theorem ev_maxL (hc : X.calm = true) (hg : Gl X "max") (hm : X.mg "max" = none) (h : EvD X e Δ M fun d M1 => ∃ (ns : List Int) (m : Int), lsD M1 d = some (ns.map D.int) ∧ maxI ns = some m ∧ k (.int m) M1) (hs : starEach [e] X.env = [(false, eval e X.env)] := by rfl) : EvD X (.Call (.Name "max" p) [e] [] pos) Δ M k :=
  ev_callB (cr_max hc) hg hm (by decide +kernel) (by decide) (by decide) hs rfl (one1 (h.mono fun d M1 ⟨ns, m, h1, h2, hk⟩ F H vs Q ok i post => by
    obtain ⟨v, rfl, iv⟩ := isL1 i
    obtain ⟨q, ws, rfl, hq, hl⟩ := ls_of ok h1 iv
    rw [(IsL.ints ns).1 hl] at hq
    obtain ⟨a, b, c⟩ := maxI_is h2
    refine ⟨q, ns, rfl, hq, a, fun m' h3 h4 => ?_⟩
    have e : m' = m := Int.le_antisymm (c _ h3) (h4 _ b)
    rw [e]
    exact post.here ok hk (is_int.2 rfl)) hs)
end
section
variable {γ : Nat → Addr} {X : Cx} {e : Expr} {s : SE} {p pos : Pos}
theorem maxL_ok : OkV1 (fun d M1 k => ∃ (ns : List Int) (m : Int), lsD M1 d = some (ns.map D.int) ∧ maxI ns = some m ∧ k (.int m) M1) maxLO := fun ρ b x xr d M k e v h => by
  obtain ⟨ds, h1, h2⟩ := Option.bind_eq_some_iff.mp e
  obtain ⟨ns, h3, h4⟩ := Option.bind_eq_some_iff.mp h2
  obtain ⟨m, h5, h6⟩ := Option.map_eq_some_iff.mp h4
  subst h6
  rw [rn_int] at h
  exact ⟨ns, m, by rw [vw_ls h1 v, unI_eq h3, rn_ints], h5, h⟩
theorem i_maxL (hc : X.calm = true) (hg : Gl X "max") (hm : X.mg "max" = none) (h : IV γ X e s) (hs : starEach [e] X.env = [(false, eval e X.env)] := by rfl) : IE γ X (.Call (.Name "max" p) [e] [] pos) (c1 maxLO s) := i_oneV (fun _ _ _ h => ev_maxL hc hg hm h hs) maxL_ok h
end
end DL
end
section
set_option Elab.async false
set_option linter.all false
set_option maxRecDepth 100000
/-! a part of a law with its box, where the part must not be worked out as a text is read -/
namespace DL
open PySem L2
structure WpE (F : List D → Pg D) : Prop where
  go : ∃ q, q = F [.cell 0] ∧ wpB true 1000000 q fun d _ => d = .bl true
section
variable {γ : Nat → Addr} {X : Cx} {a c : Expr} {pos p pos2 p2 : Pos} {x y : Str} {s t : SE} {m n : Nat} {F : List D → Pg D}
theorem i_boxE (CB : Cal X.prog X.w X.K X.mg X.base y m spBox) (CR : Cal X.prog X.w X.K X.mg X.base x n (spW γ [] F)) (hB : Room m X.A) (hR : Room n X.A) (gB : Gl X y) (gR : Gl X x) (hW : WpE F) (h : IE γ X a s) (h2 : IE γ X c t)
    (dB : (y == ("__debug__" : Str)) = false := by decide) (dR : (x == ("__debug__" : Str)) = false := by decide) (e1 : starEach [a, c] X.env = (false, eval a X.env) :: starEach [c] X.env := by rfl) (e2 : starEach [c] X.env = [(false, eval c X.env)] := by rfl) (e3 : (backTo pos2 (starEach [c] X.env)).any (·.1) = false := by rfl)
    (e4 : starEach [.Call (.Name y p2) [a, c] [] pos2] X.env = (false, eval (.Call (.Name y p2) [a, c] [] pos2) X.env) :: starEach [] X.env := by rfl) (e5 : (backTo pos (starEach [] X.env)).any (·.1) = false := by rfl) :
    IE γ X (.Call (.Name x p) [.Call (.Name y p2) [a, c] [] pos2] [] pos) (cBox s t) := by
  obtain ⟨q, hq, w⟩ := hW.go
  exact i_box CB CR hB hR gB gR (hq ▸ w) h h2 dB dR e1 e2 e3 e4 e5
end
end DL
end
section
set_option Elab.async false
set_option linter.all false
set_option maxRecDepth 100000
/-! the package's defs as programs -/
namespace Pk
open PySem L2 DL
def B_is_name : ST := (tSeq (tIf (tOr (tNot (tT (c2 isiO (cVar 0) (cC (.ty "str"))))) (tNot (tB (cCh .Lt .LtE (cC (.int 0)) (c1 lenO' (cVw 0)) (cC (.int 8)))))) (tRet (cC (.bl false))) tNil) (tRet (c1 allO (cL (aLc (.nm 1) [1] (aIt (cVar 0)) tYes (c2 (inO false) (cVar 1) (cC (.str "abcdefghijklmnopqrstuvwxyz"))))))))
def F_is_name : List D → Pg D := runF [] 1 2 B_is_name
def B_nodes_of : ST := (tSeq (tSet 1 (oL (aL aN))) (tSeq (tSet 2 (oL (aLc (.nm 3) [3] (aIt (cL (aRev (cL (aList (cVw 0)))))) tYes (cTup (aC (cC (.int 1)) (aC (cVar 3) aN)))))) (tSeq (tWh (fun _ => 1000000) (tB (c2 (coO2 .Gt) (c1 lenO' (cVw 2)) (cC (.int 0)))) (tSeq (tAsg (.tp [(.nm 4), (.nm 3)]) (xPop0 2)) (tSeq (tX (xApp 1 (xE (cTup (aC (cVar 4) (aC (c2 ixO (cVw 3) (cC (.int 0))) aN)))))) (tX (xExt 2 (cL (aRev (cL (aLc (.nm 5) [5] (aIt (c2 ixO (cVw 3) (cC (.int 1)))) tYes (cTup (aC (c2 addO (cVar 4) (cC (.int 1))) (aC (cVar 5) aN)))))))))))) (tFrz 1 (tRet (c1 tupO (cVw 1)))))))
def F_nodes_of : List D → Pg D := runF [] 1 6 B_nodes_of
def B_trees_of : ST := (tSeq (tSet 1 oD0) (tSeq (tFor (.tp [(.nm 2), (.nm 3)]) (aIt (c1 revO (cVar 0))) (tSeq (tSetX 4 (xPopD 1 (c2 addO (cVar 2) (cC (.int 1))) (cL (aL aN)))) (tPutD 1 (cL (aL (aStar (cGetO 1 (cVar 2) (cL (aL aN))) (aC (cTup (aC (cVar 3) (aC (c1 tupO (cL (aRev (cVw 4)))) aN))) aN)))) (cVar 2)))) (tFrz 1 (tRet (c1 tupO (cL (aRev (cGet (cVar 1) (cC (.int 1)) (cL (aL aN))))))))))
def F_trees_of : List D → Pg D := runF [] 1 5 B_trees_of
def B_text_of : ST := (tSeq (tIf (tB (c2 (eqO false) (c1 lenO' (cVw 0)) (cC (.int 0)))) (tRet (cC (.str "-"))) tNil) (tSeq (tPar 1 2 (oV (c2 ixO (c2 ixO (cVw 0) (cC (.int 0))) (cC (.int 1)))) (oV (cC (.int 1)))) (tSeq (tFor (.tp [(.nm 3), (.nm 4)]) (aIt (c2 sl10 (cVw 0) (cC (.int 1)))) (tSeq (tSet 1 (oV (c2 addO (c2 addO (cVar 1) (cIf (tB (c2 (coO2 .Gt) (cVar 3) (cVar 2))) (cC (.str "(")) (c2 addO (c2 smulO (cC (.str ")")) (c2 subO (cVar 2) (cVar 3))) (cC (.str " "))))) (cVar 4)))) (tSet 2 (oV (cVar 3))))) (tRet (c2 addO (cVar 1) (c2 smulO (cC (.str ")")) (c2 subO (cVar 2) (cC (.int 1)))))))))
def F_text_of : List D → Pg D := runF [] 1 5 B_text_of
def B_rows_in : ST := (tSeq (tPar3 1 2 3 (oL (aL aN)) (oV (cC (.str ""))) (oV (cC (.int 1)))) (tSeq (tFor (.nm 4) (aIt (c2 addO (cVar 0) (cC (.str " ")))) (tSeq (tIf (tB (c2 (inO false) (cVar 4) (cC (.str "abcdefghijklmnopqrstuvwxyz")))) (tSet 2 (oV (c2 addO (cVar 2) (cVar 4)))) (tIf (tB (c2 (eqO true) (cVar 2) (cC (.str "")))) (tSeq (tX (xApp 1 (xE (cTup (aC (cVar 3) (aC (cVar 2) aN)))))) (tSet 2 (oV (cC (.str ""))))) tNil)) (tSet 3 (oV (c2 subO (c2 addO (cVar 3) (c1 int2O (c2 (eqO false) (cVar 4) (cC (.str "("))))) (c1 int2O (c2 (eqO false) (cVar 4) (cC (.str ")"))))))))) (tFrz 1 (tRet (c1 tupO (cVw 1))))))
def F_rows_in : List D → Pg D := runF [] 1 5 B_rows_in
def B_Forest___init__ : ST := (tAtt (putA 3 0 "own_rows") (cCall F_nodes_of (aC (cVar 1) aN)))
def F_Forest___init__ : List D → Pg D := runN 3 2 2 B_Forest___init__
def B_Forest_of : ST := (tSeq (tSet 1 (oV (cCall F_rows_in (aC (cVar 0) aN)))) (tSeq (tIf (tOr (tNot (tT (c1 allO (cL (aLc (.tp [(.nm 2), (.nm 3)]) [2, 3] (aIt (cVar 1)) tYes (eAnd (c2 (coO2 .Gt) (cVar 2) (cC (.int 0))) (cCall F_is_name (aC (cVar 3) aN)))))))) (tB (c2 (eqO true) (cCall F_text_of (aC (cVar 1) aN)) (cVar 0)))) (fun _ => .fail) tNil) (tRet (cMk 3 F_Forest___init__ (aC (cCall F_trees_of (aC (cVar 1) aN)) aN) []))))
def F_Forest_of : List D → Pg D := runF [] 1 4 B_Forest_of
def B_Forest_trees : ST := (tRet (cCall F_trees_of (aC (c1 (fldO 3 "own_rows") (cVar 0)) aN)))
def F_Forest_trees : List D → Pg D := runF [] 1 1 B_Forest_trees
def B_Forest_text : ST := (tRet (cCall F_text_of (aC (c1 (fldO 3 "own_rows") (cVar 0)) aN)))
def F_Forest_text : List D → Pg D := runF [] 1 1 B_Forest_text
def B_Forest_depth : ST := (tRet (c1 maxLO (cL (aL (aC (cC (.int 0)) (aStar (cL (aLc (.tp [(.nm 1), (.nm 2)]) [1, 2] (aIt (c1 (fldO 3 "own_rows") (cVar 0))) tYes (cVar 1))) aN))))))
def F_Forest_depth : List D → Pg D := runF [] 1 3 B_Forest_depth
def B_Forest___len__ : ST := (tRet (c1 lenO' (c1 (fldO 3 "own_rows") (cVar 0))))
def F_Forest___len__ : List D → Pg D := runF [] 1 1 B_Forest___len__
def B_Forest_check : ST := (tIf (tNot (tB (cCh .LtE .Lt (cC (.int 0)) (cVar 1) (c1 lenO' (c1 (fldO 3 "own_rows") (cVar 0)))))) (fun _ => .fail) tNil)
def F_Forest_check : List D → Pg D := runF [] 2 2 B_Forest_check
def B_Forest___getitem__ : ST := (tSeq (tX (xE (cMeth 3 "check" F_Forest_check (cVar 0) (aC (cVar 1) aN)))) (tRet (c2 ixO (c2 ixO (c1 (fldO 3 "own_rows") (cVar 0)) (cVar 1)) (cC (.int 1)))))
def F_Forest___getitem__ : List D → Pg D := runF [] 2 2 B_Forest___getitem__
def B_Forest___add__ : ST := (tSeq (tIf (tNot (tT (c1 (isiC [] [(3, true)]) (cVar 1)))) (tRet (fun _ => .fail)) tNil) (tRet (cMk 3 F_Forest___init__ (aC (c2 addO (cProp 3 F_Forest_trees (cVar 0)) (cProp 3 F_Forest_trees (cVar 1))) aN) [])))
def F_Forest___add__ : List D → Pg D := runF [] 2 2 B_Forest___add__
def B_Forest___eq__ : ST := (tRet (eAnd (c1 (isiC [] [(3, true)]) (cVar 1)) (c2 (eqO false) (c1 (fldO 3 "own_rows") (cVar 0)) (c1 (fldO 3 "own_rows") (cVar 1)))))
def F_Forest___eq__ : List D → Pg D := runF [] 2 2 B_Forest___eq__
end Pk
end
section
set_option Elab.async false
set_option linter.all false
set_option maxRecDepth 100000
/-! defs that many laws have, as programs -/
namespace Pg0
open PySem L2 DL Pk
def B__law_of : ST := (tRet (c2 ixO (cVw 1) (cCall takeP (aC (cVar 0) (aC (c1 lenO' (cVw 1)) aN)))))
def F__law_of : List D → Pg D := runF [false, true] 2 2 B__law_of
def B__law_same (R : List D → Pg D) : ST := (tSeq (tIf (tT (cIsiT (cVar 1) (aC (cC (.ty "list")) (aC (cC (.ty "tuple")) aN)))) (tSeq (tIf (tOr (tB (c2 (eqO true) (c2 isiO (cVar 0) (cC (.ty "list"))) (c2 isiO (cVar 1) (cC (.ty "list"))))) (tB (c2 (eqO true) (c2 isiO (cVar 0) (cC (.ty "tuple"))) (c2 isiO (cVar 1) (cC (.ty "tuple")))))) (tRet (cC (.bl false))) tNil) (tRet (eAnd (c2 (eqO false) (c1 lenO' (cVw 0)) (c1 lenO' (cVw 1))) (c1 allO (cL (aLc (.tp [(.nm 2), (.nm 3)]) [2, 3] (aZip (cVar 0) (cVar 1)) tYes (cCall R (aC (cVar 2) (aC (cVar 3) aN))))))))) tNil) (tSeq (tIf (tOr (tB (c1 (nonO false) (cVar 1))) (tT (cIsiT (cVar 1) (aC (cC (.ty "bool")) (aC (cC (.ty "str")) aN))))) (tRet (eAnd (c2 (eqO false) (cVar 0) (cVar 1)) (eAnd (c2 (eqO false) (c2 isiO (cVar 0) (cC (.ty "bool"))) (c2 isiO (cVar 1) (cC (.ty "bool")))) (c2 (eqO false) (c1 (nonO false) (cVar 0)) (c1 (nonO false) (cVar 1)))))) tNil) (tRet (eAnd (c2 isiO (cVar 0) (cC (.ty "int"))) (eAnd (cNot (c2 isiO (cVar 0) (cC (.ty "bool")))) (c2 (eqO false) (cVar 0) (cVar 1)))))))
def F__law_same : Nat → List D → Pg D
  | 0 => fun _ => .fail
  | n + 1 => runF [] 2 4 (B__law_same (F__law_same n))
def B__law_mixed : ST := (tSeq (tPar 2 3 (oL (aList (cVw 1))) (oL (aL aN))) (tSeq (tFor (.nm 4) (aRg1 (c1 lenO' (cVw 1))) (tX (xApp 3 (xPop 2 (cCall takeP (aC (cVar 0) (aC (c1 lenO' (cVw 2)) aN))))))) (tRetO 3)))
def F__law_mixed : List D → Pg D := runF [] 2 5 B__law_mixed
def B__law_tags : ST := (tSeq (tSet 2 (oV (cCall takeP (aC (cVar 0) (aC (cC (.int 3)) aN))))) (tSeq (tIf (tB (c2 (eqO false) (cVar 2) (cC (.int 0)))) (tRet (c2 sl01 (cCall F__law_mixed (aC (cVar 0) (aC (cC (.str "abcdefgh")) aN))) (cVar 1))) tNil) (tSeq (tIf (tB (c2 (eqO false) (cVar 2) (cC (.int 1)))) (tRet (c2 sl01 (cCall F__law_mixed (aC (cVar 0) (aC (cL (aL (aC (cC (.str "a")) (aC (cC (.str "ab")) (aC (cC (.str "abc")) (aC (cC (.str "b")) (aC (cC (.str "ba")) (aC (cC (.str "z")) (aC (cC (.str "zzzzzzzz")) (aC (cC (.str "y")) aN)))))))))) aN))) (cVar 1))) tNil) (tRet (c2 sl01 (cCall F__law_mixed (aC (cVar 0) (aC (cL (aL (aC (cC (.str "div")) (aC (cC (.str "span")) (aC (cC (.str "p")) (aC (cC (.str "pre")) (aC (cC (.str "em")) (aC (cC (.str "script")) (aC (cC (.str "all")) (aC (cC (.str "none")) aN)))))))))) aN))) (cVar 1))))))
def F__law_tags : List D → Pg D := runF [] 2 3 B__law_tags
def B__law_rows : ST := (tSeq (tPar 3 4 (oL (aL aN)) (oV (cC (.int 0)))) (tSeq (tFor (.nm 5) (aRg1 (cCall takeP (aC (cVar 0) (aC (c2 addO (cVar 2) (cC (.int 1))) aN)))) (tSeq (tSet 4 (oV (cIf (tOr (tB (c2 (eqO false) (cVar 4) (cC (.int 0)))) (tB (c2 (eqO false) (cCall takeP (aC (cVar 0) (aC (cC (.int 2)) aN))) (cC (.int 0))))) (c2 addO (cVar 4) (cC (.int 1))) (c2 addO (cC (.int 1)) (cCall takeP (aC (cVar 0) (aC (cVar 4) aN))))))) (tX (xApp 3 (xE (cTup (aC (cVar 4) (aC (cCall F__law_of (aC (cVar 0) (aC (cVw 1) aN))) aN)))))))) (tFrz 3 (tRet (c1 tupO (cVw 3))))))
def F__law_rows : List D → Pg D := runF [] 3 6 B__law_rows
def B__law_trees (R : List D → Pg D) : ST := (tSeq (tPar 1 2 (oL (aL aN)) (oV (cC (.int 0)))) (tSeq (tWh (fun _ => 1000000) (tB (c2 (coO2 .Lt) (cVar 2) (c1 lenO' (cVw 0)))) (tSeq (tSet 3 (oV (c2 addO (cVar 2) (cC (.int 1))))) (tSeq (tWh (fun _ => 1000000) (tAnd (tB (c2 (coO2 .Lt) (cVar 3) (c1 lenO' (cVw 0)))) (tB (c2 (coO2 .Gt) (c2 ixO (c2 ixO (cVw 0) (cVar 3)) (cC (.int 0))) (c2 ixO (c2 ixO (cVw 0) (cVar 2)) (cC (.int 0)))))) (tSet 3 (oV (c2 addO (cVar 3) (cC (.int 1)))))) (tSeq (tX (xApp 1 (xE (cTup (aC (c2 ixO (c2 ixO (cVw 0) (cVar 2)) (cC (.int 1))) (aC (cCall R (aC (cSl (cVw 0) (c2 addO (cVar 2) (cC (.int 1))) (cVar 3)) aN)) aN)))))) (tSet 2 (oV (cVar 3))))))) (tFrz 1 (tRet (c1 tupO (cVw 1))))))
def F__law_trees : Nat → List D → Pg D
  | 0 => fun _ => .fail
  | n + 1 => runF [] 1 4 (B__law_trees (F__law_trees n))
end Pg0
end
section
set_option Elab.async false
set_option linter.all false
set_option maxRecDepth 100000
namespace Q03
open PySem L2 DL Pk Pg0
def BX_Forest_of : ST := (tSeq (sfT (tSet 1 (oV (cCall F_rows_in (aC (cVar 0) aN))))) (tSeq (tIf (sfB (tOr (tNot (tT (c1 allO (cL (aLc (.tp [(.nm 2), (.nm 3)]) [2, 3] (aIt (cVar 1)) tYes (eAnd (c2 (coO2 .Gt) (cVar 2) (cC (.int 0))) (cCall F_is_name (aC (cVar 3) aN)))))))) (tB (c2 (eqO true) (cCall F_text_of (aC (cVar 1) aN)) (cVar 0))))) (tRaise 10) tNil) (sfT (tRet (cMk 3 F_Forest___init__ (aC (cCall F_trees_of (aC (cVar 1) aN)) aN) [])))))
def FX_Forest_of : List D → Pg D := runF [] 1 4 BX_Forest_of
def B__law_cells : ST := (tSeq (tSet 2 (oOr (aList (c2 sl01 (cVw 0) (cVar 1))) (aL (aC (cC (.int 0)) aN)))) (tSeq (tFor (.tp [(.nm 3), (.nm 4)]) (aEnumA (cSl (cVw 0) (cVar 1) (cC (.int 63)))) (tSeq (tSet 5 (oV (c2 modO (c1 int2O (cVar 3)) (cVar 1)))) (tPut 2 (c2 addO (c2 ixO (cVw 2) (cVar 5)) (c2 mulO (cVar 4) (c2 addO (cVar 3) (cC (.int 2))))) (cVar 5)))) (tRetO 2)))
def F__law_cells : List D → Pg D := runF [] 2 6 B__law_cells
def B__law_flat (R : List D → Pg D) : ST := (tSeq (tSet 1 (oV (cL (aLc (.tp [(.nm 2), (.nm 3)]) [2, 3] (aIt (cVar 0)) tYes (c2 addO (cVar 2) (cIf (tB (c2 (eqO true) (cVar 3) (cTup aN))) (c2 addO (c2 addO (cC (.str "(")) (cCall R (aC (cVar 3) aN))) (cC (.str ")"))) (cC (.str "")))))))) (tRet (cIf (tB (c2 (eqO true) (cVar 1) (cL (aL aN)))) (c2 joinO (cC (.str " ")) (cVw 1)) (cC (.str "-")))))
def F__law_flat : Nat → List D → Pg D
  | 0 => fun _ => .fail
  | n + 1 => runF [] 1 4 (B__law_flat (F__law_flat n))
def B__law_heard : ST := (tSeq (tAsg (.tp [(.nm 1), (.nm 2)]) (xE (cTup (aC (cC .non) (aC (cC .non) aN))))) (tSeq (tTryT [10, 7] 1 3 (tSet 2 (oV (cCallK FX_Forest_of (fun a b => a ++ b) 1 aN (sfA (aC (cVar 0) aN)))))) (tSeq (tIf (tB (c1 (nonO false) (cVar 1))) (tRet (cIf (tB (c2 (eqO false) (cProp 3 F_Forest_text (cVar 2)) (cVar 0))) (cProp 3 F_Forest_trees (cVar 2)) (cC (.str "unlike")))) tNil) (tRet (cIf (tAnd (tT (cIsX 10 true (cVar 1))) (tT (cIsX 10 true (cVar 1)))) (cC .non) (cC (.str "other")))))))
def F__law_heard : List D → Pg D := runF [] 1 4 B__law_heard
def B__law_grown (R : List D → Pg D) : ST := (tSeq (tSet 2 (oL (aL aN))) (tWh (fun _ => 1000000) (tT (cC (.bl true))) (tSeq (tSet 3 (oV (cVar 1))) (tSeq (tWh (fun _ => 1000000) (tAnd (tB (c2 (coO2 .Lt) (cVar 3) (c1 lenO' (cVw 0)))) (tB (c2 (inO false) (c2 ixO (cVw 0) (cVar 3)) (cC (.str "abcdefghijklmnopqrstuvwxyz"))))) (tSet 3 (oV (c2 addO (cVar 3) (cC (.int 1)))))) (tSeq (tIf (tNot (tB (cCh .Lt .Lt (cC (.int 0)) (c2 subO (cVar 3) (cVar 1)) (cC (.int 9))))) (tRet (cC .non)) tNil) (tSeq (tPar3 4 5 1 (oV (cSl (cVw 0) (cVar 1) (cVar 3))) (oV (cTup (aC (cTup aN) (aC (cVar 3) aN)))) (oV (cVar 3))) (tSeq (tIf (tB (c2 (eqO false) (cSl (cVw 0) (cVar 1) (c2 addO (cVar 1) (cC (.int 1)))) (cC (.str "(")))) (tSeq (tSet 5 (oV (cCall R (aC (cVar 0) (aC (c2 addO (cVar 1) (cC (.int 1))) aN))))) (tSeq (tIf (tOr (tB (c1 (nonO false) (cVar 5))) (tB (c2 (eqO true) (cSl (cVw 0) (c2 ixO (cVw 5) (cC (.int 1))) (c2 addO (c2 ixO (cVw 5) (cC (.int 1))) (cC (.int 1)))) (cC (.str ")"))))) (tRet (cC .non)) tNil) (tSet 5 (oV (cTup (aC (c2 ixO (cVw 5) (cC (.int 0))) (aC (c2 addO (c2 ixO (cVw 5) (cC (.int 1))) (cC (.int 1))) aN))))))) tNil) (tSeq (tX (xApp 2 (xE (cTup (aC (cVar 4) (aC (c2 ixO (cVw 5) (cC (.int 0))) aN)))))) (tSeq (tSet 1 (oV (c2 ixO (cVw 5) (cC (.int 1))))) (tSeq (tIf (tB (c2 (eqO true) (cSl (cVw 0) (cVar 1) (c2 addO (cVar 1) (cC (.int 1)))) (cC (.str " ")))) (tRet (cTup (aC (c1 tupO (cVw 2)) (aC (cVar 1) aN)))) tNil) (tSet 1 (oV (c2 addO (cVar 1) (cC (.int 1)))))))))))))))
def F__law_grown : Nat → List D → Pg D
  | 0 => fun _ => .fail
  | n + 1 => runF [] 2 6 (B__law_grown (F__law_grown n))
def B__law_read : ST := (tSeq (tSet 1 (oV (cIf (tB (c2 (eqO false) (cVar 0) (cC (.str "-")))) (cTup (aC (cTup aN) (aC (cC (.int 1)) aN))) (cCall (F__law_grown 62) (aC (cVar 0) (aC (cC (.int 0)) aN)))))) (tRet (cIf (tAnd (tB (c1 (nonO true) (cVar 1))) (tB (c2 (eqO false) (c2 ixO (cVw 1) (cC (.int 1))) (c1 lenO' (cVw 0))))) (c2 ixO (cVw 1) (cC (.int 0))) (cC .non))))
def F__law_read : List D → Pg D := runF [] 1 2 B__law_read
def B__law_by_hand_right : ST := (tSeq (tSet 0 (oL (aL (aC (cTup (aC (cC (.str "-")) (aC (cTup aN) aN))) (aC (cTup (aC (cC (.str "a")) (aC (cTup (aC (cTup (aC (cC (.str "a")) (aC (cTup aN) aN))) aN)) aN))) (aC (cTup (aC (cC (.str "a a")) (aC (cTup (aC (cTup (aC (cC (.str "a")) (aC (cTup aN) aN))) (aC (cTup (aC (cC (.str "a")) (aC (cTup aN) aN))) aN))) aN))) (aC (cTup (aC (cC (.str "a(b)")) (aC (cTup (aC (cTup (aC (cC (.str "a")) (aC (cTup (aC (cTup (aC (cC (.str "b")) (aC (cTup aN) aN))) aN)) aN))) aN)) aN))) aN))))))) (tSeq (tX (xApp 0 (xE (cTup (aC (cC (.str "a(b(c) d) abcdefgh")) (aC (cTup (aC (cTup (aC (cC (.str "a")) (aC (cTup (aC (cTup (aC (cC (.str "b")) (aC (cTup (aC (cTup (aC (cC (.str "c")) (aC (cTup aN) aN))) aN)) aN))) (aC (cTup (aC (cC (.str "d")) (aC (cTup aN) aN))) aN))) aN))) (aC (cTup (aC (cC (.str "abcdefgh")) (aC (cTup aN) aN))) aN))) aN)))))) (tSeq (tSet 1 (oV (cL (aL (aC (cC (.str "")) (aC (cC (.str " ")) (aC (cC (.str "a()")) (aC (cC (.str "a( b)")) (aC (cC (.str "a(b")) (aC (cC (.str "a)")) (aC (cC (.str "a) b")) (aC (cC (.str "(a)")) (aC (cC (.str "a(b)c")) (aC (cC (.str "a (b)")) (aC (cC (.str "a((b))")) (aC (cC (.str "a,b")) (aC (cC (.str "a  b")) (aC (cC (.str "a ")) (aC (cC (.str "- a")) aN))))))))))))))))))) (tSeq (tSet 1 (oV (c2 addO (cVar 1) (cL (aL (aC (cC (.str "a(-)")) (aC (cC (.str "A")) (aC (cC (.str "a(b c) ")) (aC (cC (.str "a(b)(c)")) (aC (cC (.str "a\nb")) (aC (cC (.str "abcdefghi")) (aC (cC (.str "a(b))")) (aC (cC (.str ")a(")) (aC (cC (.str " a")) (aC (cC (.str "a(b )")) (aC (cC (.str "a1")) (aC (cC (.str "()")) aN))))))))))))))))) (tSeq (tSet 1 (oV (c2 addO (cVar 1) (cL (aL (aC (cC (.str "a(b) (c)")) (aC (cC (.str "a(b)\n")) (aC (cC (.str "--")) (aC (cC (.str "a-b")) (aC (cC (.str "a(b(c)")) (aC (cC (.str "a(abcdefghi)")) (aC (cC (.str "-\n")) (aC (cC (.str "a_b")) (aC (cC (.str "a[b]")) (aC (cC (.str "a(b;c)")) aN))))))))))))))) (tFrz 0 (tSeq (tSet 2 (oL (aAdd (cL (aLc (.tp [(.nm 3), (.nm 4)]) [3, 4] (aIt (cVar 0)) tYes (cCall F__law_heard (aC (cVar 3) aN)))) (cL (aLc (.tp [(.nm 3), (.nm 4)]) [3, 4] (aIt (cVar 0)) tYes (cProp 3 F_Forest_text (cMk 3 F_Forest___init__ (aC (cVar 4) aN) []))))))) (tSeq (tSet 5 (oV (c2 addO (cL (aLc (.tp [(.nm 3), (.nm 4)]) [3, 4] (aIt (cVar 0)) tYes (cVar 4))) (cL (aLc (.tp [(.nm 3), (.nm 4)]) [3, 4] (aIt (cVar 0)) tYes (cVar 3)))))) (tSeq (tSet 6 (oV (c2 addO (c2 addO (c2 smulO (cC (.str "a(")) (cC (.int 59))) (cC (.str "b"))) (c2 smulO (cC (.str ")")) (cC (.int 59)))))) (tSeq (tSet 2 (oL (aAdd (cVw 2) (cL (aL (aC (cProp 3 F_Forest_depth (cCall F_Forest_of (aC (cVar 6) aN))) (aC (c2 (eqO false) (cProp 3 F_Forest_text (cCall F_Forest_of (aC (cVar 6) aN))) (cVar 6)) (aC (cCall F__law_heard (aC (c2 sl01 (cVw 6) (c1 negO (cC (.int 1)))) aN)) aN)))))))) (tSeq (tX (xApp 2 (xE (cOwnLen 3 F_Forest___len__ (cCall F_Forest_of (aC (c2 addO (c2 smulO (cC (.str "q ")) (cC (.int 99))) (cC (.str "q"))) aN)))))) (tFrz 2 (tRet (cCall (F__law_same 40) (aC (cL (aAdd (cVw 2) (cL (aLc (.nm 3) [3] (aIt (cVar 1)) tYes (cCall F__law_heard (aC (cVar 3) aN)))))) (aC (c2 addO (c2 addO (cVar 5) (cL (aL (aC (cC (.int 60)) (aC (cC (.bl true)) (aC (cC .non) (aC (cC (.int 100)) aN))))))) (c2 mulO (cL (aL (aC (cC .non) aN))) (c1 lenO' (cVw 1)))) aN))))))))))))))))
def F__law_by_hand_right : List D → Pg D := runF [] 0 7 B__law_by_hand_right
def B__law_right : ST := (tSeq (tIf (tNot (tT (cCall F__law_by_hand_right aN))) (tRet (cC (.bl false))) tNil) (tSeq (tFor (.nm 1) (aRg1 (cC (.int 10))) (tSeq (tSet 2 (oV (cCall F__law_rows (aC (cVar 0) (aC (cCall F__law_tags (aC (cVar 0) (aC (cC (.int 3)) aN))) (aC (cC (.int 9)) aN)))))) (tSeq (tSet 3 (oV (cCall (F__law_trees 16) (aC (cVar 2) aN)))) (tSeq (tSet 4 (oV (cCall (F__law_flat 16) (aC (cVar 3) aN)))) (tSeq (tIf (tNot (tT (cCall (F__law_same 40) (aC (cL (aL (aC (cCall F__law_heard (aC (cVar 4) aN)) (aC (cProp 3 F_Forest_text (cMk 3 F_Forest___init__ (aC (cVar 3) aN) [])) aN)))) (aC (cL (aL (aC (cVar 3) (aC (cVar 4) aN)))) aN))))) (tRet (cC (.bl false))) tNil) (tFor (.nm 5) (aRg1 (cC (.int 4))) (tSeq (tPar 6 7 (oV (cCall takeP (aC (cVar 0) (aC (c1 lenO' (cVw 4)) aN)))) (oV (cCall F__law_of (aC (cVar 0) (aC (cL (aL (aC (cC (.str " ")) (aC (cC (.str "(")) (aC (cC (.str ")")) (aC (cC (.str "a")) (aC (cC (.str "z")) (aC (cC (.str "-")) (aC (cC (.str "A")) (aC (cC (.str "_")) (aC (cC (.str "0")) aN))))))))))) aN))))) (tSeq (tSet 8 (oV (cL (aL (aC (c2 addO (c2 addO (c2 sl01 (cVw 4) (cVar 6)) (cVar 7)) (c2 sl10 (cVw 4) (cVar 6))) (aC (c2 addO (c2 sl01 (cVw 4) (cVar 6)) (c2 sl10 (cVw 4) (c2 addO (cVar 6) (cC (.int 1))))) (aC (c2 addO (c2 addO (c2 sl01 (cVw 4) (cVar 6)) (cVar 7)) (c2 sl10 (cVw 4) (c2 addO (cVar 6) (cC (.int 1))))) (aC (c2 addO (cVar 4) (cVar 7)) aN)))))))) (tIf (tNot (tT (cCall (F__law_same 40) (aC (cL (aLc (.nm 9) [9] (aIt (cVar 8)) tYes (cCall F__law_heard (aC (cVar 9) aN)))) (aC (cL (aLc (.nm 9) [9] (aIt (cVar 8)) tYes (cCall F__law_read (aC (cVar 9) aN)))) aN))))) (tRet (cC (.bl false))) tNil))))))))) (tRet (cC (.bl true)))))
def F__law_right : List D → Pg D := runF [] 1 10 B__law_right
def B_law : ST := (tSeq (tSet 1 (oV (cCall F__law_cells (aC (cVar 0) (aC (cC (.int 3)) aN))))) (tRet (c1 allO (cL (aLc (.nm 2) [2] (aRg1 (c1 lenO' (cVw 1))) tYes (cBox (cVar 1) (cVar 2)))))))
def F_law : List D → Pg D := runF [] 1 3 B_law
end Q03
end
section
set_option Elab.async false
set_option linter.all false
set_option maxRecDepth 100000
namespace Q03
open PySem L2 DL Pk Pg0
abbrev gam (K : PySem.W.Frag) : Nat → Addr
  | 3 => He.ga K "Forest"
  | 10 => He.ga K "BadText"
  | 7 => He.ga K "NoPlace"
  | _ => 0
structure Top (K : PySem.W.Frag) (mg : Str → Option Value) : Prop where
  b_ValueError : mg "ValueError" = none
  b_abs : mg "abs" = none
  b_all : mg "all" = none
  b_bool : mg "bool" = none
  b_enumerate : mg "enumerate" = none
  b_int : mg "int" = none
  b_isinstance : mg "isinstance" = none
  b_len : mg "len" = none
  b_list : mg "list" = none
  b_max : mg "max" = none
  b_range : mg "range" = none
  b_str : mg "str" = none
  b_tuple : mg "tuple" = none
  b_zip : mg "zip" = none
  g_LETTERS : ∃ t, mg "LETTERS" = some (.str "abcdefghijklmnopqrstuvwxyz" t)
  g_LONGEST : ∃ t, mg "LONGEST" = some (.int 8 t)
  g_NOTHING : ∃ t, mg "NOTHING" = some (.str "-" t)
  g_Forest : mg "Forest" = some (.ref (gam K 3))
  cl_Forest : Cls K (gam K 3)
  self_Forest : PySem.W.selfFirst K (gam K 3) = true
  ty_Forest : TyC K (gam K 3)
  ne_Forest : PySem.W.findIn K (.ref (gam K 3)) "__ne__" = some (some (.builtin "object.__ne__"))
  gx_BadText : mg "BadText" = some (.ref (gam K 10))
  gx_NoPlace : mg "NoPlace" = some (.ref (gam K 7))
  isf_Forest : IsFacts K (gam K) 3 [] [(3, true)]
  no_Forest_own_rows : NoAttr K (gam K 3) "own_rows"
  xa_BadText_NoPlace : ∀ c ∈ [10, 7], PySem.W.exmAny K (.ref (gam K c)) [.ref (gam K 10), .ref (gam K 7)] = some true
  xc_BadText : ExcC K (gam K 10)
  xi_BadText_ValueError : PySem.W.kitOne K (.ref (gam K 10)) (.type "ValueError") = some true
  xk_BadText : ExcK K (gam K 10)
  xo_BadText_BadText : PySem.W.kitOne K (.ref (gam K 10)) (.ref (gam K 10)) = some true
section
variable {P : Program} {w : World} {K : PySem.W.Frag} {mg : Str → Option Value} {base : Heap} {f : Addr} {fd : FuncData} {dvs : List V}
set_option maxHeartbeats 4000000
theorem sc_is_name : FnScope ["thing", "sign"] ["thing"] (defScope s_is_name) := ⟨rfl, rfl, rfl, by decide +kernel, rfl, by decide +kernel, by decide +kernel⟩
theorem ok_is_name (T : Top K mg) (Fn : FnD K "is_name" "is_name" s_is_name dvs f fd) : FnOk P w K mg base CX0 1 f fd ["thing"] (spOf K (spW (gam K) [] F_is_name)) := by
  refine fn_ok (n := 0) (t := B_is_name) (by rfl) Fn sc_is_name fun cdv A outer s H E hr => ?_
  have sc := sc_is_name
  exact (b_cons (r_if (t_w (w_or (t_not (t_truth (fun _ => rfl) (IE.iv (i_isi rfl T.b_isinstance (i_v (i := 0)) (i_ty (T := "str") rfl T.b_str (by decide +kernel) (by decide) rfl))))) (w_or1 (t_not (t_chain (by with_unfolding_all rfl) i_int (i_len rfl T.b_len (iv_v (i := 0))) (i_gI T.g_LONGEST rfl)))))) (b_one (r_ret i_bl)) b_nil) (b_one (r_ret (i_all rfl rfl T.b_all (IE.iv (IL.frz (l_lc (own := [("sign", 1)]) rfl sc.nd (blkOk_by rfl) (by decide) (n_any (i_v (i := 0))) (by decide) (fun s H C cl fp => (g_n (i := 1) sc.nd)) (fun s H C cl fp => ts_nil) (fun s H C cl fp => (i_cm (k_in (i_v (i := 1)) (IE.iv (i_gS T.g_LETTERS rfl))))))))))))
theorem sc_nodes_of : FnScope ["trees", "found", "rest", "tree", "depth", "part"] ["trees"] (defScope s_nodes_of) := ⟨rfl, rfl, rfl, by decide +kernel, rfl, by decide +kernel, by decide +kernel⟩
theorem ok_nodes_of (T : Top K mg) (Fn : FnD K "nodes_of" "nodes_of" s_nodes_of dvs f fd) : FnOk P w K mg base CX0 1 f fd ["trees"] (spOf K (spW (gam K) [] F_nodes_of)) := by
  refine fn_ok (n := 0) (t := B_nodes_of) (by rfl) Fn sc_nodes_of fun cdv A outer s H E hr => ?_
  have sc := sc_nodes_of
  exact (b_cons (r_set (i := 1) sc.nd rfl (.inl rfl) (.inr rfl) (IL.io (l_lst a_nil))) (b_cons (r_setLcO (i := 2) (own := [("tree", 3)]) rfl sc.nd rfl rfl (sw_true rfl rfl rfl (by decide +kernel)) (blkOk_by rfl) (by decide) (n_any (IL.frz (l_rev (IE.iv (IL.frz (l_list rfl rfl T.b_list (iv_v (i := 0)))))))) (by decide) (fun s H C cl fp => (g_n (i := 3) sc.nd)) (fun s H C cl fp => ts_nil) (fun s H C cl fp => (i_tup (a_cons i_int (a_cons (i_v (i := 3)) a_nil))))) (b_cons (r_while (f := fun _ => 1000000) PassesOwn.never (t_cm (k_co2 (i_len rfl T.b_len (iv_v (i := 2))) i_int)) (b_cons (r_asg (x_pop0 (i := 2) rfl (.inl rfl) rfl rfl) (g_tup rfl (gs_cons (g_n (i := 4) sc.nd) (gs_cons (g_n (i := 3) sc.nd) gs_nil)) rfl)) (b_cons (r_expr (x_app (i := 1) rfl (.inl rfl) rfl rfl (IE.ix (i_tup (a_cons (i_var (i := 4) rfl (.inr (.inl rfl)) rfl rfl) (a_cons (i_ix (fun _ _ => rfl) (iv_v (i := 3)) i_int) a_nil)))))) (b_one (r_expr (x_ext (i := 2) rfl (.inl rfl) rfl rfl (IL.frz (l_rev (IE.iv (IL.frz (l_lc (own := [("part", 5)]) rfl sc.nd (blkOk_by rfl) (by decide) (n_any (i_ix (fun _ _ => rfl) (iv_v (i := 3)) i_int)) (by decide) (fun s H C cl fp => (g_n (i := 5) sc.nd)) (fun s H C cl fp => ts_nil) (fun s H C cl fp => (i_tup (a_cons (i_add (i_var (i := 4) rfl (by first | exact .inl rfl | exact .inr (.inl rfl) | exact .inr (.inr rfl)) rfl rfl) i_int) (a_cons (i_v (i := 5)) a_nil))))))))))))))) (b_frz (b_one (r_ret (i_tuple rfl rfl T.b_tuple (iv_v (i := 1)))))))))
theorem sc_trees_of : FnScope ["rows", "beneath", "depth", "name", "own"] ["rows"] (defScope s_trees_of) := ⟨rfl, rfl, rfl, by decide +kernel, rfl, by decide +kernel, by decide +kernel⟩
theorem ok_trees_of (T : Top K mg) (Fn : FnD K "trees_of" "trees_of" s_trees_of dvs f fd) : FnOk P w K mg base CX0 1 f fd ["rows"] (spOf K (spW (gam K) [] F_trees_of)) := by
  refine fn_ok (n := 0) (t := B_trees_of) (by rfl) Fn sc_trees_of fun cdv A outer s H E hr => ?_
  have sc := sc_trees_of
  exact (b_cons (r_set (i := 1) sc.nd rfl (.inl rfl) (.inr rfl) o_dnew) (b_cons (r_for PassesOwn.never rfl (n_any (i_revT (i_v (i := 0)))) (g_tup rfl (gs_cons (g_n (i := 2) sc.nd) (gs_cons (g_n (i := 3) sc.nd) gs_nil)) rfl) (b_cons (r_setX (i := 4) sc.nd rfl (.inl rfl) (.inr rfl) (x_popD (i := 1) rfl (.inl rfl) rfl rfl (i_add (i_v (i := 2)) i_int) (IL.frz (l_lst a_nil)))) (b_one (r_putD (i := 1) hr.units rfl (.inl rfl) rfl rfl (IL.frz (l_lst (a_star (IE.iv (i_getO (i := 1) hr.units rfl (.inl rfl) rfl rfl (i_v (i := 2)) (IL.frz (l_lst a_nil)))) (a_cons (i_tup (a_cons (i_v (i := 3)) (a_cons (i_tuple rfl rfl T.b_tuple (IE.iv (IL.frz (l_rev (iv_v (i := 4)))))) a_nil))) a_nil)))) (i_v (i := 2)))))) (b_frz (b_one (r_ret (i_tuple rfl rfl T.b_tuple (IE.iv (IL.frz (l_rev (IE.iv (i_get2 hr.units (i_v (i := 1)) i_int (IL.frz (l_lst a_nil)))))))))))))
theorem sc_text_of : FnScope ["rows", "found", "before", "depth", "name"] ["rows"] (defScope s_text_of) := ⟨rfl, rfl, rfl, by decide +kernel, rfl, by decide +kernel, by decide +kernel⟩
theorem ok_text_of (T : Top K mg) (Fn : FnD K "text_of" "text_of" s_text_of dvs f fd) : FnOk P w K mg base CX0 1 f fd ["rows"] (spOf K (spW (gam K) [] F_text_of)) := by
  refine fn_ok (n := 0) (t := B_text_of) (by rfl) Fn sc_text_of fun cdv A outer s H E hr => ?_
  have sc := sc_text_of
  exact (b_cons (r_if (t_cm (k_eq hr.units (i_len rfl T.b_len (iv_v (i := 0))) i_int)) (b_one (r_ret (i_gS T.g_NOTHING rfl))) b_nil) (b_cons (r_par (i := 1) (j := 2) rfl sc.nd rfl rfl (by decide) rfl rfl rfl (IE.io (i_ix (fun _ _ => rfl) (IE.iv (i_ix (fun _ _ => rfl) (iv_v (i := 0)) i_int)) i_int)) (IE.io i_int)) (b_cons (r_for PassesOwn.never rfl (n_any (i_sl10 (iv_v (i := 0)) i_int)) (g_tup rfl (gs_cons (g_n (i := 3) sc.nd) (gs_cons (g_n (i := 4) sc.nd) gs_nil)) rfl) (b_cons (r_set (i := 1) sc.nd rfl (.inl rfl) (.inr rfl) (IE.io (i_add (i_add (i_v (i := 1)) (i_if (t_cm (k_co2 (i_v (i := 3)) (i_v (i := 2)))) i_str (i_add (i_smul i_str (i_sub (i_v (i := 2)) (i_v (i := 3)))) i_str))) (i_v (i := 4))))) (b_one (r_set (i := 2) sc.nd rfl (.inl rfl) (.inr rfl) (IE.io (i_v (i := 3))))))) (b_one (r_ret (i_add (i_v (i := 1)) (i_smul i_str (i_sub (i_v (i := 2)) i_int))))))))
theorem sc_rows_in : FnScope ["text", "found", "name", "depth", "sign"] ["text"] (defScope s_rows_in) := ⟨rfl, rfl, rfl, by decide +kernel, rfl, by decide +kernel, by decide +kernel⟩
theorem ok_rows_in (T : Top K mg) (Fn : FnD K "rows_in" "rows_in" s_rows_in dvs f fd) : FnOk P w K mg base CX0 1 f fd ["text"] (spOf K (spW (gam K) [] F_rows_in)) := by
  refine fn_ok (n := 0) (t := B_rows_in) (by rfl) Fn sc_rows_in fun cdv A outer s H E hr => ?_
  have sc := sc_rows_in
  exact (b_cons (r_par3 (i := 1) (j := 2) (l := 3) rfl sc.nd rfl rfl rfl (by decide) (by decide) (by decide) rfl rfl rfl rfl (IL.io (l_lst a_nil)) (IE.io i_str) (IE.io i_int)) (b_cons (r_for PassesOwn.never rfl (n_any (i_add (i_v (i := 0)) i_str)) (g_n (i := 4) sc.nd) (b_cons (r_if (t_cm (k_in (i_v (i := 4)) (IE.iv (i_gS T.g_LETTERS rfl)))) (b_one (r_set (i := 2) sc.nd rfl (.inl rfl) (.inr rfl) (IE.io (i_add (i_v (i := 2)) (i_v (i := 4)))))) (b_one (r_if (t_cm (k_ne hr.units (i_v (i := 2)) i_str)) (b_cons (r_expr (x_app (i := 1) rfl (.inl rfl) rfl rfl (IE.ix (i_tup (a_cons (i_v (i := 3)) (a_cons (i_v (i := 2)) a_nil)))))) (b_one (r_set (i := 2) sc.nd rfl (.inl rfl) (.inr rfl) (IE.io i_str)))) b_nil))) (b_one (r_set (i := 3) sc.nd rfl (.inl rfl) (.inr rfl) (IE.io (i_sub (i_add (i_v (i := 3)) (i_intc2 rfl T.b_int (i_cm (k_eq hr.units (i_v (i := 4)) i_str)))) (i_intc2 rfl T.b_int (i_cm (k_eq hr.units (i_v (i := 4)) i_str))))))))) (b_frz (b_one (r_ret (i_tuple rfl rfl T.b_tuple (iv_v (i := 1))))))))
theorem sc_Forest___init__ : FnScope ["self", "trees"] ["self", "trees"] (defScope s_Forest___init__) := ⟨rfl, rfl, rfl, by decide +kernel, rfl, by decide +kernel, by decide +kernel⟩
theorem ok_Forest___init__ (T : Top K mg) (C_nodes_of : Cal P w K mg base "nodes_of" 1 (spW (gam K) [] F_nodes_of)) (Fn : FnD K "__init__" "Forest.__init__" s_Forest___init__ dvs f fd) : FnOk P w K mg base CX0 2 f fd ["self", "trees"] (spOf K (spN (gam K) 3 F_Forest___init__)) := by
  refine init_ok (c := 3) (n := 1) (t := B_Forest___init__) (by rfl) Fn sc_Forest___init__ (by decide) fun cdv A outer s H E hr => ?_
  have sc := sc_Forest___init__
  exact (b_one (r_att (i_call C_nodes_of (hr.mono (by omega)) rfl (w_nil (a_cons (i_v (i := 1)) a_nil))) (ga_attr (c := 3) (i := 0) rfl (.inl rfl) rfl rfl T.cl_Forest T.no_Forest_own_rows)))
theorem sc_Forest_of : FnScope ["text", "rows", "depth", "name"] ["text"] (defScope s_Forest_of) := ⟨rfl, rfl, rfl, by decide +kernel, rfl, by decide +kernel, by decide +kernel⟩
theorem ok_Forest_of (T : Top K mg) (C_is_name : Cal P w K mg base "is_name" 1 (spW (gam K) [] F_is_name)) (C_rows_in : Cal P w K mg base "rows_in" 1 (spW (gam K) [] F_rows_in)) (C_text_of : Cal P w K mg base "text_of" 1 (spW (gam K) [] F_text_of)) (C_trees_of : Cal P w K mg base "trees_of" 1 (spW (gam K) [] F_trees_of)) (N_Forest_1 : MakD P w K mg base "Forest" (gam K 3) 2 [] (spN (gam K) 3 F_Forest___init__)) (Fn : FnD K "of" "Forest.of" s_Forest_of dvs f fd) : FnOk P w K mg base CX0 4 f fd ["text"] (spOf K (spW (gam K) [] F_Forest_of)) := by
  refine fn_ok (n := 3) (t := B_Forest_of) (by rfl) Fn sc_Forest_of fun cdv A outer s H E hr => ?_
  have sc := sc_Forest_of
  exact (b_cons (r_set (i := 1) sc.nd rfl (.inl rfl) (.inr rfl) (IE.io (i_call C_rows_in (hr.mono (by omega)) rfl (w_nil (a_cons (i_v (i := 0)) a_nil))))) (b_cons (r_if (t_w (w_or (t_not (t_truth (fun _ => rfl) (IE.iv (i_all rfl rfl T.b_all (IE.iv (IL.frz (l_lc (own := [("depth", 2), ("name", 3)]) rfl sc.nd (blkOk_by rfl) (by decide) (n_any (i_v (i := 1))) (by decide) (fun s H C cl fp => (g_tup rfl (gs_cons (g_n (i := 2) sc.nd) (gs_cons (g_n (i := 3) sc.nd) gs_nil)) rfl)) (fun s H C cl fp => ts_nil) (fun s H C cl fp => (i_and (i_cm (k_co2 (i_v (i := 2)) i_int)) (i_b1 (i_call C_is_name (hr.mono (by omega)) rfl (w_nil (a_cons (i_v (i := 3)) a_nil))))))))))))) (w_or1 (t_cm (k_ne hr.units (i_call C_text_of (hr.mono (by omega)) rfl (w_nil (a_cons (i_v (i := 1)) a_nil))) (i_v (i := 0))))))) (b_one r_dead) b_nil) (b_one (r_ret (i_make (c := 3) (ad := []) N_Forest_1 (hr.mono (by omega)) rfl (fun ρ => by simp only [rnL, rn]) (a_cons (i_call C_trees_of (hr.mono (by omega)) rfl (w_nil (a_cons (i_v (i := 1)) a_nil))) a_nil))))))
theorem okx_Forest_of (T : Top K mg) (C_is_name : Cal P w K mg base "is_name" 1 (spW (gam K) [] F_is_name)) (C_rows_in : Cal P w K mg base "rows_in" 1 (spW (gam K) [] F_rows_in)) (C_text_of : Cal P w K mg base "text_of" 1 (spW (gam K) [] F_text_of)) (C_trees_of : Cal P w K mg base "trees_of" 1 (spW (gam K) [] F_trees_of)) (N_Forest_1 : MakD P w K mg base "Forest" (gam K 3) 2 [] (spN (gam K) 3 F_Forest___init__)) (Fn : FnD K "of" "Forest.of" s_Forest_of dvs f fd) : FnOk P w K mg base (L2.CX P w) 4 f fd ["text"] (spOfX K (spWX (gam K) [] FX_Forest_of)) := by
  refine fn_okX (n := 3) (t := BX_Forest_of) (by rfl) Fn sc_Forest_of fun cdv A outer s H E hr => ?_
  have sc := sc_Forest_of
  exact (x_cons (IS1.isx (x_of (r_set (i := 1) sc.nd rfl (.inl rfl) (.inr rfl) (IE.io (i_call C_rows_in (hr.mono (by omega)) rfl (w_nil (a_cons (i_v (i := 0)) a_nil))))))) (x_cons (x_if (t_w (w_or (t_not (t_truth (fun _ => rfl) (IE.iv (i_all rfl rfl T.b_all (IE.iv (IL.frz (l_lc (own := [("depth", 2), ("name", 3)]) rfl sc.nd (blkOk_by rfl) (by decide) (n_any (i_v (i := 1))) (by decide) (fun s H C cl fp => (g_tup rfl (gs_cons (g_n (i := 2) sc.nd) (gs_cons (g_n (i := 3) sc.nd) gs_nil)) rfl)) (fun s H C cl fp => ts_nil) (fun s H C cl fp => (i_and (i_cm (k_co2 (i_v (i := 2)) i_int)) (i_b1 (i_call C_is_name (hr.mono (by omega)) rfl (w_nil (a_cons (i_v (i := 3)) a_nil))))))))))))) (w_or1 (t_cm (k_ne hr.units (i_call C_text_of (hr.mono (by omega)) rfl (w_nil (a_cons (i_v (i := 1)) a_nil))) (i_v (i := 0))))))) (x_one (x_raise (c := 10) rfl T.xk_BadText T.gx_BadText rfl)) x_nil) (x_one (IS1.isx (x_of (r_ret (i_make (c := 3) (ad := []) N_Forest_1 (hr.mono (by omega)) rfl (fun ρ => by simp only [rnL, rn]) (a_cons (i_call C_trees_of (hr.mono (by omega)) rfl (w_nil (a_cons (i_v (i := 1)) a_nil))) a_nil))))))))
theorem sc_Forest_trees : FnScope ["self"] ["self"] (defScope s_Forest_trees) := ⟨rfl, rfl, rfl, by decide +kernel, rfl, by decide +kernel, by decide +kernel⟩
theorem ok_Forest_trees (T : Top K mg) (C_trees_of : Cal P w K mg base "trees_of" 1 (spW (gam K) [] F_trees_of)) (Fn : FnD K "trees" "Forest.trees" s_Forest_trees dvs f fd) : FnOk P w K mg base CX0 2 f fd ["self"] (spOf K (spW (gam K) [] F_Forest_trees)) := by
  refine fn_ok (n := 1) (t := B_Forest_trees) (by rfl) Fn sc_Forest_trees fun cdv A outer s H E hr => ?_
  have sc := sc_Forest_trees
  exact (b_one (r_ret (i_call C_trees_of (hr.mono (by omega)) rfl (w_nil (a_cons (i_fld (c := 3) T.cl_Forest T.no_Forest_own_rows (i_v (i := 0))) a_nil)))))
theorem sc_Forest_text : FnScope ["self"] ["self"] (defScope s_Forest_text) := ⟨rfl, rfl, rfl, by decide +kernel, rfl, by decide +kernel, by decide +kernel⟩
theorem ok_Forest_text (T : Top K mg) (C_text_of : Cal P w K mg base "text_of" 1 (spW (gam K) [] F_text_of)) (Fn : FnD K "text" "Forest.text" s_Forest_text dvs f fd) : FnOk P w K mg base CX0 2 f fd ["self"] (spOf K (spW (gam K) [] F_Forest_text)) := by
  refine fn_ok (n := 1) (t := B_Forest_text) (by rfl) Fn sc_Forest_text fun cdv A outer s H E hr => ?_
  have sc := sc_Forest_text
  exact (b_one (r_ret (i_call C_text_of (hr.mono (by omega)) rfl (w_nil (a_cons (i_fld (c := 3) T.cl_Forest T.no_Forest_own_rows (i_v (i := 0))) a_nil)))))
theorem sc_Forest_depth : FnScope ["self", "depth", "name"] ["self"] (defScope s_Forest_depth) := ⟨rfl, rfl, rfl, by decide +kernel, rfl, by decide +kernel, by decide +kernel⟩
theorem ok_Forest_depth (T : Top K mg) (Fn : FnD K "depth" "Forest.depth" s_Forest_depth dvs f fd) : FnOk P w K mg base CX0 1 f fd ["self"] (spOf K (spW (gam K) [] F_Forest_depth)) := by
  refine fn_ok (n := 0) (t := B_Forest_depth) (by rfl) Fn sc_Forest_depth fun cdv A outer s H E hr => ?_
  have sc := sc_Forest_depth
  exact (b_one (r_ret (i_maxL rfl rfl T.b_max (IE.iv (IL.frz (l_lst (a_cons i_int (a_star (IE.iv (IL.frz (l_lc (own := [("depth", 1), ("name", 2)]) rfl sc.nd (blkOk_by rfl) (by decide) (n_any (i_fld (c := 3) T.cl_Forest T.no_Forest_own_rows (i_v (i := 0)))) (by decide) (fun s H C cl fp => (g_tup rfl (gs_cons (g_n (i := 1) sc.nd) (gs_cons (g_n (i := 2) sc.nd) gs_nil)) rfl)) (fun s H C cl fp => ts_nil) (fun s H C cl fp => (i_v (i := 1)))))) a_nil))))))))
theorem sc_Forest___len__ : FnScope ["self"] ["self"] (defScope s_Forest___len__) := ⟨rfl, rfl, rfl, by decide +kernel, rfl, by decide +kernel, by decide +kernel⟩
theorem ok_Forest___len__ (T : Top K mg) (Fn : FnD K "__len__" "Forest.__len__" s_Forest___len__ dvs f fd) : FnOk P w K mg base CX0 1 f fd ["self"] (spOf K (spW (gam K) [] F_Forest___len__)) := by
  refine fn_ok (n := 0) (t := B_Forest___len__) (by rfl) Fn sc_Forest___len__ fun cdv A outer s H E hr => ?_
  have sc := sc_Forest___len__
  exact (b_one (r_ret (i_len rfl T.b_len (IE.iv (i_fld (c := 3) T.cl_Forest T.no_Forest_own_rows (i_v (i := 0)))))))
theorem sc_Forest_check : FnScope ["self", "place"] ["self", "place"] (defScope s_Forest_check) := ⟨rfl, rfl, rfl, by decide +kernel, rfl, by decide +kernel, by decide +kernel⟩
theorem ok_Forest_check (T : Top K mg) (Fn : FnD K "check" "Forest.check" s_Forest_check dvs f fd) : FnOk P w K mg base CX0 1 f fd ["self", "place"] (spOf K (spW (gam K) [] F_Forest_check)) := by
  refine fn_ok (n := 0) (t := B_Forest_check) (by rfl) Fn sc_Forest_check fun cdv A outer s H E hr => ?_
  have sc := sc_Forest_check
  exact (b_one (r_if (t_not (t_chain (by with_unfolding_all rfl) i_int (i_v (i := 1)) (i_len rfl T.b_len (IE.iv (i_fld (c := 3) T.cl_Forest T.no_Forest_own_rows (i_v (i := 0))))))) (b_one r_dead) b_nil))
theorem sc_Forest___getitem__ : FnScope ["self", "place"] ["self", "place"] (defScope s_Forest___getitem__) := ⟨rfl, rfl, rfl, by decide +kernel, rfl, by decide +kernel, by decide +kernel⟩
theorem ok_Forest___getitem__ (T : Top K mg) (Me_Forest_check : MethD P w K mg base (gam K 3) "check" 1 (spW (gam K) [] F_Forest_check)) (Fn : FnD K "__getitem__" "Forest.__getitem__" s_Forest___getitem__ dvs f fd) : FnOk P w K mg base CX0 2 f fd ["self", "place"] (spOf K (spW (gam K) [] F_Forest___getitem__)) := by
  refine fn_ok (n := 1) (t := B_Forest___getitem__) (by rfl) Fn sc_Forest___getitem__ fun cdv A outer s H E hr => ?_
  have sc := sc_Forest___getitem__
  exact (b_cons (r_expr (IE.ix (i_meth (c := 3) T.cl_Forest Me_Forest_check (hr.mono (by omega)) (i_v (i := 0)) (a_cons (i_v (i := 1)) a_nil)))) (b_one (r_ret (i_ix (fun _ _ => rfl) (IE.iv (i_ix (fun _ _ => rfl) (IE.iv (i_fld (c := 3) T.cl_Forest T.no_Forest_own_rows (i_v (i := 0)))) (i_v (i := 1)))) i_int))))
theorem sc_Forest___add__ : FnScope ["self", "other"] ["self", "other"] (defScope s_Forest___add__) := ⟨rfl, rfl, rfl, by decide +kernel, rfl, by decide +kernel, by decide +kernel⟩
theorem ok_Forest___add__ (T : Top K mg) (N_Forest_1 : MakD P w K mg base "Forest" (gam K 3) 2 [] (spN (gam K) 3 F_Forest___init__)) (Pr_Forest_trees : PropD P w K mg base (gam K 3) "trees" 2 (spW (gam K) [] F_Forest_trees)) (Fn : FnD K "__add__" "Forest.__add__" s_Forest___add__ dvs f fd) : FnOk P w K mg base CX0 4 f fd ["self", "other"] (spOf K (spW (gam K) [] F_Forest___add__)) := by
  refine fn_ok (n := 3) (t := B_Forest___add__) (by rfl) Fn sc_Forest___add__ fun cdv A outer s H E hr => ?_
  have sc := sc_Forest___add__
  exact (b_cons (r_if (t_not (t_truth (fun _ => rfl) (IE.iv (i_isiO rfl T.b_isinstance T.isf_Forest T.g_Forest rfl (i_v (i := 1)))))) (b_one (r_ret i_dead)) b_nil) (b_one (r_ret (i_make (c := 3) (ad := []) N_Forest_1 (hr.mono (by omega)) rfl (fun ρ => by simp only [rnL, rn]) (a_cons (i_add (i_prop (c := 3) T.cl_Forest Pr_Forest_trees (hr.mono (by omega)) (i_v (i := 0))) (i_prop (c := 3) T.cl_Forest Pr_Forest_trees (hr.mono (by omega)) (i_v (i := 1)))) a_nil)))))
theorem sc_Forest___eq__ : FnScope ["self", "other"] ["self", "other"] (defScope s_Forest___eq__) := ⟨rfl, rfl, rfl, by decide +kernel, rfl, by decide +kernel, by decide +kernel⟩
theorem ok_Forest___eq__ (T : Top K mg) (Fn : FnD K "__eq__" "Forest.__eq__" s_Forest___eq__ dvs f fd) : FnOk P w K mg base CX0 1 f fd ["self", "other"] (spOf K (spW (gam K) [] F_Forest___eq__)) := by
  refine fn_ok (n := 0) (t := B_Forest___eq__) (by rfl) Fn sc_Forest___eq__ fun cdv A outer s H E hr => ?_
  have sc := sc_Forest___eq__
  exact (b_one (r_ret (i_and (i_isiO rfl T.b_isinstance T.isf_Forest T.g_Forest rfl (i_v (i := 1))) (i_b1 (i_cm (k_eq hr.units (i_fld (c := 3) T.cl_Forest T.no_Forest_own_rows (i_v (i := 0))) (i_fld (c := 3) T.cl_Forest T.no_Forest_own_rows (i_v (i := 1)))))))))
theorem sc__law_cells : FnScope ["_law_script", "_law_top", "_law_cells_here", "_law_k", "_law_cell", "_law_at_so"] ["_law_script", "_law_top"] (defScope s__law_cells) := ⟨rfl, rfl, rfl, by decide +kernel, rfl, by decide +kernel, by decide +kernel⟩
theorem ok__law_cells (T : Top K mg) (Fn : FnD K "_law_cells" "_law_cells" s__law_cells dvs f fd) : FnOk P w K mg base CX0 1 f fd ["_law_script", "_law_top"] (spOf K (spW (gam K) [] F__law_cells)) := by
  refine fn_ok (n := 0) (t := B__law_cells) (by rfl) Fn sc__law_cells fun cdv A outer s H E hr => ?_
  have sc := sc__law_cells
  exact (b_cons (r_set (i := 2) sc.nd rfl (.inl rfl) (.inr rfl) (io_or (l_list rfl rfl T.b_list (IE.iv (i_sl01 (iv_v (i := 0)) (i_v (i := 1))))) (l_lst (a_cons i_int a_nil)))) (b_cons (r_for PassesOwn.never rfl (n_enumA rfl T.b_enumerate (i_sl11 (iv_v (i := 0)) (i_v (i := 1)) i_int)) (g_tup rfl (gs_cons (g_n (i := 3) sc.nd) (gs_cons (g_n (i := 4) sc.nd) gs_nil)) rfl) (b_cons (r_set (i := 5) sc.nd rfl (.inl rfl) (.inr rfl) (IE.io (i_mod (i_intc2 rfl T.b_int (i_v (i := 3))) (i_v (i := 1))))) (b_one (r_put (i := 2) rfl (.inl rfl) rfl rfl (i_add (i_ix (fun _ _ => rfl) (iv_v (i := 2)) (i_v (i := 5))) (i_mul (i_v (i := 4)) (i_add (i_v (i := 3)) i_int))) (i_v (i := 5)))))) (b_one (r_retO (i := 2) rfl (.inl rfl) rfl rfl))))
theorem sc__law_of : FnScope ["_law_urn", "_law_some_so"] ["_law_urn", "_law_some_so"] (defScope s__law_of) := ⟨rfl, rfl, rfl, by decide +kernel, rfl, by decide +kernel, by decide +kernel⟩
theorem ok__law_of (T : Top K mg) (C__law_take : Cal P w K mg base "_law_take" 1 (spW (gam K) [] takeP)) (Fn : FnD K "_law_of" "_law_of" s__law_of dvs f fd) : FnOk P w K mg base CX0 2 f fd ["_law_urn", "_law_some_so"] (spOf K (spW (gam K) [false, true] F__law_of)) := by
  refine fn_ok (n := 1) (t := B__law_of) (by rfl) Fn sc__law_of fun cdv A outer s H E hr => ?_
  have sc := sc__law_of
  exact (b_one (r_ret (i_ix (fun _ _ => rfl) (iv_v (i := 1)) (i_call C__law_take (hr.mono (by omega)) rfl (w_nil (a_cons (i_v (i := 0)) (a_cons (i_len rfl T.b_len (iv_v (i := 1))) a_nil)))))))
theorem sc__law_same : FnScope ["_law_got", "_law_goal", "_law_mine_so", "_law_own"] ["_law_got", "_law_goal"] (defScope s__law_same) := ⟨rfl, rfl, rfl, by decide +kernel, rfl, by decide +kernel, by decide +kernel⟩
theorem ok__law_same (T : Top K mg) (Fn : FnD K "_law_same" "_law_same" s__law_same dvs f fd) (gR : mg "_law_same" = some (.ref f)) (bR : Binds K fd ["_law_got", "_law_goal"] []) : ∀ d : Nat, FnOk P w K mg base CX0 (1 + d) f fd ["_law_got", "_law_goal"] (spOf K (spW (gam K) [] (F__law_same d)))
  | 0 => (fail_ok (n := 0) Fn sc__law_same)
  | d + 1 => by
    have CR : Cal P w K mg base "_law_same" (1 + d) (spW (gam K) [] (F__law_same d)) := ⟨f, fd, _, ok__law_same T  Fn gR bR d, gR, Fn.kp, bR⟩
    refine fn_ok (n := 1 + d) (t := B__law_same (F__law_same d)) (by rfl) Fn sc__law_same fun cdv A outer s H E hr => ?_
    have sc := sc__law_same
    exact (b_cons (r_if (t_truth (fun _ => rfl) (IE.iv (i_isiT rfl T.b_isinstance (i_v (i := 1)) (a_cons (i_ty (T := "list") rfl T.b_list (by decide +kernel) (by decide) rfl) (a_cons (i_ty (T := "tuple") rfl T.b_tuple (by decide +kernel) (by decide) rfl) a_nil))))) (b_cons (r_if (t_w (w_or (t_cm (k_ne hr.units (i_isi rfl T.b_isinstance (i_v (i := 0)) (i_ty (T := "list") rfl T.b_list (by decide +kernel) (by decide) rfl)) (i_isi rfl T.b_isinstance (i_v (i := 1)) (i_ty (T := "list") rfl T.b_list (by decide +kernel) (by decide) rfl)))) (w_or1 (t_cm (k_ne hr.units (i_isi rfl T.b_isinstance (i_v (i := 0)) (i_ty (T := "tuple") rfl T.b_tuple (by decide +kernel) (by decide) rfl)) (i_isi rfl T.b_isinstance (i_v (i := 1)) (i_ty (T := "tuple") rfl T.b_tuple (by decide +kernel) (by decide) rfl))))))) (b_one (r_ret i_bl)) b_nil) (b_one (r_ret (i_and (i_cm (k_eq hr.units (i_len rfl T.b_len (iv_v (i := 0))) (i_len rfl T.b_len (iv_v (i := 1))))) (i_b1 (i_all rfl rfl T.b_all (IE.iv (IL.frz (l_lc (own := [("_law_mine_so", 2), ("_law_own", 3)]) rfl sc.nd (blkOk_by rfl) (by decide) (n_zip rfl T.b_zip (i_v (i := 0)) (i_v (i := 1))) (by decide) (fun s H C cl fp => (g_tup rfl (gs_cons (g_n (i := 2) sc.nd) (gs_cons (g_n (i := 3) sc.nd) gs_nil)) rfl)) (fun s H C cl fp => ts_nil) (fun s H C cl fp => (i_call CR (hr.mono (by omega)) rfl (w_nil (a_cons (i_v (i := 2)) (a_cons (i_v (i := 3)) a_nil)))))))))))))) b_nil) (b_cons (r_if (t_w (w_or (t_cm (k_is (i_v (i := 1)))) (w_or1 (t_truth (fun _ => rfl) (IE.iv (i_isiT rfl T.b_isinstance (i_v (i := 1)) (a_cons (i_ty (T := "bool") rfl T.b_bool (by decide +kernel) (by decide) rfl) (a_cons (i_ty (T := "str") rfl T.b_str (by decide +kernel) (by decide) rfl) a_nil)))))))) (b_one (r_ret (i_and (i_cm (k_eq hr.units (i_v (i := 0)) (i_v (i := 1)))) (i_and (i_cm (k_eq hr.units (i_isi rfl T.b_isinstance (i_v (i := 0)) (i_ty (T := "bool") rfl T.b_bool (by decide +kernel) (by decide) rfl)) (i_isi rfl T.b_isinstance (i_v (i := 1)) (i_ty (T := "bool") rfl T.b_bool (by decide +kernel) (by decide) rfl)))) (i_b1 (i_cm (k_eq hr.units (i_cm (k_is (i_v (i := 0)))) (i_cm (k_is (i_v (i := 1))))))))))) b_nil) (b_one (r_ret (i_and (i_isi rfl T.b_isinstance (i_v (i := 0)) (i_ty (T := "int") rfl T.b_int (by decide +kernel) (by decide) rfl)) (i_and (i_not (i_isi rfl T.b_isinstance (i_v (i := 0)) (i_ty (T := "bool") rfl T.b_bool (by decide +kernel) (by decide) rfl))) (i_b1 (i_cm (k_eq hr.units (i_v (i := 0)) (i_v (i := 1)))))))))))
theorem sc__law_mixed : FnScope ["_law_urn", "_law_pool", "_law_rest_so", "_law_found", "_law_turn"] ["_law_urn", "_law_pool"] (defScope s__law_mixed) := ⟨rfl, rfl, rfl, by decide +kernel, rfl, by decide +kernel, by decide +kernel⟩
theorem ok__law_mixed (T : Top K mg) (C__law_take : Cal P w K mg base "_law_take" 1 (spW (gam K) [] takeP)) (Fn : FnD K "_law_mixed" "_law_mixed" s__law_mixed dvs f fd) : FnOk P w K mg base CX0 2 f fd ["_law_urn", "_law_pool"] (spOf K (spW (gam K) [] F__law_mixed)) := by
  refine fn_ok (n := 1) (t := B__law_mixed) (by rfl) Fn sc__law_mixed fun cdv A outer s H E hr => ?_
  have sc := sc__law_mixed
  exact (b_cons (r_par (i := 2) (j := 3) rfl sc.nd rfl rfl (by decide) rfl rfl rfl (IL.io (l_list rfl rfl T.b_list (iv_v (i := 1)))) (IL.io (l_lst a_nil))) (b_cons (r_for PassesOwn.never rfl (n_rg1 rfl T.b_range (i_len rfl T.b_len (iv_v (i := 1)))) (g_n (i := 4) sc.nd) (b_one (r_expr (x_app (i := 3) rfl (.inl rfl) rfl rfl (x_pop (i := 2) rfl (.inl rfl) rfl rfl (i_call C__law_take (hr.mono (by omega)) rfl (w_nil (a_cons (i_v (i := 0)) (a_cons (i_len rfl T.b_len (iv_v (i := 2))) a_nil))))))))) (b_one (r_retO (i := 3) rfl (.inl rfl) rfl rfl))))
theorem sc__law_tags : FnScope ["_law_urn", "_law_many_so", "_law_style"] ["_law_urn", "_law_many_so"] (defScope s__law_tags) := ⟨rfl, rfl, rfl, by decide +kernel, rfl, by decide +kernel, by decide +kernel⟩
theorem ok__law_tags (T : Top K mg) (C__law_mixed : Cal P w K mg base "_law_mixed" 2 (spW (gam K) [] F__law_mixed)) (C__law_take : Cal P w K mg base "_law_take" 1 (spW (gam K) [] takeP)) (Fn : FnD K "_law_tags" "_law_tags" s__law_tags dvs f fd) : FnOk P w K mg base CX0 3 f fd ["_law_urn", "_law_many_so"] (spOf K (spW (gam K) [] F__law_tags)) := by
  refine fn_ok (n := 2) (t := B__law_tags) (by rfl) Fn sc__law_tags fun cdv A outer s H E hr => ?_
  have sc := sc__law_tags
  exact (b_cons (r_set (i := 2) sc.nd rfl (.inl rfl) (.inr rfl) (IE.io (i_call C__law_take (hr.mono (by omega)) rfl (w_nil (a_cons (i_v (i := 0)) (a_cons i_int a_nil)))))) (b_cons (r_if (t_cm (k_eq hr.units (i_v (i := 2)) i_int)) (b_one (r_ret (i_sl01 (IE.iv (i_call C__law_mixed (hr.mono (by omega)) rfl (w_nil (a_cons (i_v (i := 0)) (a_cons i_str a_nil))))) (i_v (i := 1))))) b_nil) (b_cons (r_if (t_cm (k_eq hr.units (i_v (i := 2)) i_int)) (b_one (r_ret (i_sl01 (IE.iv (i_call C__law_mixed (hr.mono (by omega)) rfl (w_nil (a_cons (i_v (i := 0)) (a_cons (IL.frz (l_lst (a_cons i_str (a_cons i_str (a_cons i_str (a_cons i_str (a_cons i_str (a_cons i_str (a_cons i_str (a_cons i_str a_nil)))))))))) a_nil))))) (i_v (i := 1))))) b_nil) (b_one (r_ret (i_sl01 (IE.iv (i_call C__law_mixed (hr.mono (by omega)) rfl (w_nil (a_cons (i_v (i := 0)) (a_cons (IL.frz (l_lst (a_cons i_str (a_cons i_str (a_cons i_str (a_cons i_str (a_cons i_str (a_cons i_str (a_cons i_str (a_cons i_str a_nil)))))))))) a_nil))))) (i_v (i := 1))))))))
theorem sc__law_rows : FnScope ["_law_urn", "_law_tags_here", "_law_most", "_law_found", "_law_deep", "_law_turn"] ["_law_urn", "_law_tags_here", "_law_most"] (defScope s__law_rows) := ⟨rfl, rfl, rfl, by decide +kernel, rfl, by decide +kernel, by decide +kernel⟩
theorem ok__law_rows (T : Top K mg) (C__law_of : Cal P w K mg base "_law_of" 2 (spW (gam K) [false, true] F__law_of)) (C__law_take : Cal P w K mg base "_law_take" 1 (spW (gam K) [] takeP)) (Fn : FnD K "_law_rows" "_law_rows" s__law_rows dvs f fd) : FnOk P w K mg base CX0 3 f fd ["_law_urn", "_law_tags_here", "_law_most"] (spOf K (spW (gam K) [] F__law_rows)) := by
  refine fn_ok (n := 2) (t := B__law_rows) (by rfl) Fn sc__law_rows fun cdv A outer s H E hr => ?_
  have sc := sc__law_rows
  exact (b_cons (r_par (i := 3) (j := 4) rfl sc.nd rfl rfl (by decide) rfl rfl rfl (IL.io (l_lst a_nil)) (IE.io i_int)) (b_cons (r_for PassesOwn.never rfl (n_rg1 rfl T.b_range (i_call C__law_take (hr.mono (by omega)) rfl (w_nil (a_cons (i_v (i := 0)) (a_cons (i_add (i_v (i := 2)) i_int) a_nil))))) (g_n (i := 5) sc.nd) (b_cons (r_set (i := 4) sc.nd rfl (.inl rfl) (.inr rfl) (IE.io (i_if (t_w (w_or (t_cm (k_eq hr.units (i_v (i := 4)) i_int)) (w_or1 (t_cm (k_eq hr.units (i_call C__law_take (hr.mono (by omega)) rfl (w_nil (a_cons (i_v (i := 0)) (a_cons i_int a_nil)))) i_int))))) (i_add (i_v (i := 4)) i_int) (i_add i_int (i_call C__law_take (hr.mono (by omega)) rfl (w_nil (a_cons (i_v (i := 0)) (a_cons (i_v (i := 4)) a_nil)))))))) (b_one (r_expr (x_app (i := 3) rfl (.inl rfl) rfl rfl (IE.ix (i_tup (a_cons (i_v (i := 4)) (a_cons (i_call C__law_of (hr.mono (by omega)) rfl (w_v (i_v (i := 0)) (w_w (iv_v (i := 1)) (w_nil a_nil)))) a_nil))))))))) (b_frz (b_one (r_ret (i_tuple rfl rfl T.b_tuple (iv_v (i := 3))))))))
theorem sc__law_trees : FnScope ["_law_rows_so", "_law_found", "_law_k", "_law_last_so"] ["_law_rows_so"] (defScope s__law_trees) := ⟨rfl, rfl, rfl, by decide +kernel, rfl, by decide +kernel, by decide +kernel⟩
theorem ok__law_trees (T : Top K mg) (Fn : FnD K "_law_trees" "_law_trees" s__law_trees dvs f fd) (gR : mg "_law_trees" = some (.ref f)) (bR : Binds K fd ["_law_rows_so"] []) : ∀ d : Nat, FnOk P w K mg base CX0 (1 + d) f fd ["_law_rows_so"] (spOf K (spW (gam K) [] (F__law_trees d)))
  | 0 => (fail_ok (n := 0) Fn sc__law_trees)
  | d + 1 => by
    have CR : Cal P w K mg base "_law_trees" (1 + d) (spW (gam K) [] (F__law_trees d)) := ⟨f, fd, _, ok__law_trees T  Fn gR bR d, gR, Fn.kp, bR⟩
    refine fn_ok (n := 1 + d) (t := B__law_trees (F__law_trees d)) (by rfl) Fn sc__law_trees fun cdv A outer s H E hr => ?_
    have sc := sc__law_trees
    exact (b_cons (r_par (i := 1) (j := 2) rfl sc.nd rfl rfl (by decide) rfl rfl rfl (IL.io (l_lst a_nil)) (IE.io i_int)) (b_cons (r_while (f := fun _ => 1000000) PassesOwn.never (t_cm (k_co2 (i_v (i := 2)) (i_len rfl T.b_len (iv_v (i := 0))))) (b_cons (r_set (i := 3) sc.nd rfl (.inl rfl) (.inr rfl) (IE.io (i_add (i_v (i := 2)) i_int))) (b_cons (r_while (f := fun _ => 1000000) PassesOwn.never (t_w (w_and (t_cm (k_co2 (i_v (i := 3)) (i_len rfl T.b_len (iv_v (i := 0))))) (w_and1 (t_cm (k_co2 (i_ix (fun _ _ => rfl) (IE.iv (i_ix (fun _ _ => rfl) (iv_v (i := 0)) (i_v (i := 3)))) i_int) (i_ix (fun _ _ => rfl) (IE.iv (i_ix (fun _ _ => rfl) (iv_v (i := 0)) (i_v (i := 2)))) i_int)))))) (b_one (r_set (i := 3) sc.nd rfl (.inl rfl) (.inr rfl) (IE.io (i_add (i_v (i := 3)) i_int))))) (b_cons (r_expr (x_app (i := 1) rfl (.inl rfl) rfl rfl (IE.ix (i_tup (a_cons (i_ix (fun _ _ => rfl) (IE.iv (i_ix (fun _ _ => rfl) (iv_v (i := 0)) (i_v (i := 2)))) i_int) (a_cons (i_call CR (hr.mono (by omega)) rfl (w_nil (a_cons (i_sl11 (iv_v (i := 0)) (i_add (i_v (i := 2)) i_int) (i_v (i := 3))) a_nil))) a_nil)))))) (b_one (r_set (i := 2) sc.nd rfl (.inl rfl) (.inr rfl) (IE.io (i_v (i := 3))))))))) (b_frz (b_one (r_ret (i_tuple rfl rfl T.b_tuple (iv_v (i := 1))))))))
theorem sc__law_flat : FnScope ["_law_trees_so", "_law_bits", "_law_tag", "_law_own"] ["_law_trees_so"] (defScope s__law_flat) := ⟨rfl, rfl, rfl, by decide +kernel, rfl, by decide +kernel, by decide +kernel⟩
theorem ok__law_flat (T : Top K mg) (Fn : FnD K "_law_flat" "_law_flat" s__law_flat dvs f fd) (gR : mg "_law_flat" = some (.ref f)) (bR : Binds K fd ["_law_trees_so"] []) : ∀ d : Nat, FnOk P w K mg base CX0 (1 + d) f fd ["_law_trees_so"] (spOf K (spW (gam K) [] (F__law_flat d)))
  | 0 => (fail_ok (n := 0) Fn sc__law_flat)
  | d + 1 => by
    have CR : Cal P w K mg base "_law_flat" (1 + d) (spW (gam K) [] (F__law_flat d)) := ⟨f, fd, _, ok__law_flat T  Fn gR bR d, gR, Fn.kp, bR⟩
    refine fn_ok (n := 1 + d) (t := B__law_flat (F__law_flat d)) (by rfl) Fn sc__law_flat fun cdv A outer s H E hr => ?_
    have sc := sc__law_flat
    exact (b_cons (r_setLc (i := 1) (own := [("_law_tag", 2), ("_law_own", 3)]) rfl sc.nd rfl rfl (sw_true rfl rfl rfl (by decide +kernel)) (blkOk_by rfl) (by decide) (n_any (i_v (i := 0))) (by decide) (fun s H C cl fp => (g_tup rfl (gs_cons (g_n (i := 2) sc.nd) (gs_cons (g_n (i := 3) sc.nd) gs_nil)) rfl)) (fun s H C cl fp => ts_nil) (fun s H C cl fp => (i_add (i_v (i := 2)) (i_if (t_cm (k_ne hr.units (i_v (i := 3)) (i_tup a_nil))) (i_add (i_add i_str (i_call CR (hr.mono (by omega)) rfl (w_nil (a_cons (i_v (i := 3)) a_nil)))) i_str) i_str)))) (b_one (r_ret (i_if (t_cm (k_ne hr.units (i_v (i := 1)) (IL.frz (l_lst a_nil)))) (i_join i_str (iv_v (i := 1))) i_str))))
theorem sc__law_heard : FnScope ["_law_flat_here", "_law_caught", "_law_wood", "error"] ["_law_flat_here"] (defScope s__law_heard) := ⟨rfl, rfl, rfl, by decide +kernel, rfl, by decide +kernel, by decide +kernel⟩
theorem ok__law_heard (T : Top K mg) (Pr_Forest_text : PropD P w K mg base (gam K 3) "text" 2 (spW (gam K) [] F_Forest_text)) (Pr_Forest_trees : PropD P w K mg base (gam K 3) "trees" 2 (spW (gam K) [] F_Forest_trees)) (SK_Forest_of : StaKX P w K mg base (gam K 3) "of" 4 ["text"] (fun a b => a ++ b) (spWX (gam K) [] FX_Forest_of)) (Fn : FnD K "_law_heard" "_law_heard" s__law_heard dvs f fd) : FnOk P w K mg base CX0 5 f fd ["_law_flat_here"] (spOf K (spW (gam K) [] F__law_heard)) := by
  refine fn_ok (n := 4) (t := B__law_heard) (by rfl) Fn sc__law_heard fun cdv A outer s H E hr => ?_
  have sc := sc__law_heard
  exact (b_cons (r_asg (IE.ix (i_tup (a_cons i_non (a_cons i_non a_nil)))) (g_tup rfl (gs_cons (g_n (i := 1) sc.nd) (gs_cons (g_n (i := 2) sc.nd) gs_nil)) rfl)) (b_cons (r_tryT (c1 := 10) (c2 := 7) (i := 1) (j := 3) T.xa_BadText_NoPlace T.gx_BadText rfl T.gx_NoPlace rfl sc.nd rfl rfl (by decide) rfl rfl (.inl rfl) (.inl rfl) fun pn xe => (x_set (i := 2) sc.nd rfl (.inl rfl) (.inr rfl) (x_staticK0 (c0 := 3) SK_Forest_of (hr.mono (by omega)) T.g_Forest rfl ordA (k_cons (i_v (i := 0)) k_nil)))) (b_cons (r_if (t_cm (k_is (i_v (i := 1)))) (b_one (r_ret (i_if (t_cm (k_eq hr.units (i_prop (c := 3) T.cl_Forest Pr_Forest_text (hr.mono (by omega)) (i_v (i := 2))) (i_v (i := 0)))) (i_prop (c := 3) T.cl_Forest Pr_Forest_trees (hr.mono (by omega)) (i_v (i := 2))) i_str))) b_nil) (b_one (r_ret (i_if (t_w (w_and (t_truth (fun _ => rfl) (IE.iv (i_isXo (c := 10) (c2 := 10) T.xc_BadText T.xo_BadText_BadText rfl T.b_isinstance T.gx_BadText rfl (i_v (i := 1))))) (w_and1 (t_truth (fun _ => rfl) (IE.iv (i_isX (c := 10) T.xc_BadText T.xi_BadText_ValueError rfl T.b_isinstance (i_v (i := 1)) (i_ty (T := "ValueError") rfl T.b_ValueError (by decide +kernel) (by decide) rfl))))))) i_non i_str))))))
theorem sc__law_grown : FnScope ["_law_flat_here", "_law_k", "_law_found", "_law_last_so", "_law_tag", "_law_own"] ["_law_flat_here", "_law_k"] (defScope s__law_grown) := ⟨rfl, rfl, rfl, by decide +kernel, rfl, by decide +kernel, by decide +kernel⟩
theorem ok__law_grown (T : Top K mg) (Fn : FnD K "_law_grown" "_law_grown" s__law_grown dvs f fd) (gR : mg "_law_grown" = some (.ref f)) (bR : Binds K fd ["_law_flat_here", "_law_k"] []) : ∀ d : Nat, FnOk P w K mg base CX0 (1 + d) f fd ["_law_flat_here", "_law_k"] (spOf K (spW (gam K) [] (F__law_grown d)))
  | 0 => (fail_ok (n := 0) Fn sc__law_grown)
  | d + 1 => by
    have CR : Cal P w K mg base "_law_grown" (1 + d) (spW (gam K) [] (F__law_grown d)) := ⟨f, fd, _, ok__law_grown T  Fn gR bR d, gR, Fn.kp, bR⟩
    refine fn_ok (n := 1 + d) (t := B__law_grown (F__law_grown d)) (by rfl) Fn sc__law_grown fun cdv A outer s H E hr => ?_
    have sc := sc__law_grown
    exact (b_cons (r_set (i := 2) sc.nd rfl (.inl rfl) (.inr rfl) (IL.io (l_lst a_nil))) (b_one (r_while (f := fun _ => 1000000) PassesOwn.never (t_truth (fun _ => rfl) (IE.iv i_bl)) (b_cons (r_set (i := 3) sc.nd rfl (.inl rfl) (.inr rfl) (IE.io (i_v (i := 1)))) (b_cons (r_while (f := fun _ => 1000000) PassesOwn.never (t_w (w_and (t_cm (k_co2 (i_v (i := 3)) (i_len rfl T.b_len (iv_v (i := 0))))) (w_and1 (t_cm (k_in (i_ix (fun _ _ => rfl) (iv_v (i := 0)) (i_v (i := 3))) (IE.iv i_str)))))) (b_one (r_set (i := 3) sc.nd rfl (.inl rfl) (.inr rfl) (IE.io (i_add (i_v (i := 3)) i_int))))) (b_cons (r_if (t_not (t_chain (by with_unfolding_all rfl) i_int (i_sub (i_v (i := 3)) (i_v (i := 1))) i_int)) (b_one (r_ret i_non)) b_nil) (b_cons (r_par3 (i := 4) (j := 5) (l := 1) rfl sc.nd rfl rfl rfl (by decide) (by decide) (by decide) rfl rfl rfl rfl (IE.io (i_sl11 (iv_v (i := 0)) (i_v (i := 1)) (i_v (i := 3)))) (IE.io (i_tup (a_cons (i_tup a_nil) (a_cons (i_v (i := 3)) a_nil)))) (IE.io (i_v (i := 3)))) (b_cons (r_if (t_cm (k_eq hr.units (i_sl11 (iv_v (i := 0)) (i_v (i := 1)) (i_add (i_v (i := 1)) i_int)) i_str)) (b_cons (r_set (i := 5) sc.nd rfl (.inl rfl) (.inr rfl) (IE.io (i_call CR (hr.mono (by omega)) rfl (w_nil (a_cons (i_v (i := 0)) (a_cons (i_add (i_v (i := 1)) i_int) a_nil)))))) (b_cons (r_if (t_w (w_or (t_cm (k_is (i_v (i := 5)))) (w_or1 (t_cm (k_ne hr.units (i_sl11 (iv_v (i := 0)) (i_ix (fun _ _ => rfl) (iv_v (i := 5)) i_int) (i_add (i_ix (fun _ _ => rfl) (iv_v (i := 5)) i_int) i_int)) i_str))))) (b_one (r_ret i_non)) b_nil) (b_one (r_set (i := 5) sc.nd rfl (.inl rfl) (.inr rfl) (IE.io (i_tup (a_cons (i_ix (fun _ _ => rfl) (iv_v (i := 5)) i_int) (a_cons (i_add (i_ix (fun _ _ => rfl) (iv_v (i := 5)) i_int) i_int) a_nil)))))))) b_nil) (b_cons (r_expr (x_app (i := 2) rfl (.inl rfl) rfl rfl (IE.ix (i_tup (a_cons (i_v (i := 4)) (a_cons (i_ix (fun _ _ => rfl) (iv_v (i := 5)) i_int) a_nil)))))) (b_cons (r_set (i := 1) sc.nd rfl (.inl rfl) (.inr rfl) (IE.io (i_ix (fun _ _ => rfl) (iv_v (i := 5)) i_int))) (b_cons (r_if (t_cm (k_ne hr.units (i_sl11 (iv_v (i := 0)) (i_v (i := 1)) (i_add (i_v (i := 1)) i_int)) i_str)) (b_one (r_ret (i_tup (a_cons (i_tuple rfl rfl T.b_tuple (iv_v (i := 2))) (a_cons (i_v (i := 1)) a_nil))))) b_nil) (b_one (r_set (i := 1) sc.nd rfl (.inl rfl) (.inr rfl) (IE.io (i_add (i_v (i := 1)) i_int)))))))))))))))
theorem sc__law_read : FnScope ["_law_flat_here", "_law_made"] ["_law_flat_here"] (defScope s__law_read) := ⟨rfl, rfl, rfl, by decide +kernel, rfl, by decide +kernel, by decide +kernel⟩
theorem ok__law_read (T : Top K mg) (C__law_grown : Cal P w K mg base "_law_grown" 63 (spW (gam K) [] (F__law_grown 62))) (Fn : FnD K "_law_read" "_law_read" s__law_read dvs f fd) : FnOk P w K mg base CX0 64 f fd ["_law_flat_here"] (spOf K (spW (gam K) [] F__law_read)) := by
  refine fn_ok (n := 63) (t := B__law_read) (by rfl) Fn sc__law_read fun cdv A outer s H E hr => ?_
  have sc := sc__law_read
  exact (b_cons (r_set (i := 1) sc.nd rfl (.inl rfl) (.inr rfl) (IE.io (i_if (t_cm (k_eq hr.units (i_v (i := 0)) i_str)) (i_tup (a_cons (i_tup a_nil) (a_cons i_int a_nil))) (i_call C__law_grown (hr.mono (by omega)) rfl (w_nil (a_cons (i_v (i := 0)) (a_cons i_int a_nil))))))) (b_one (r_ret (i_if (t_w (w_and (t_cm (k_isnot (i_v (i := 1)))) (w_and1 (t_cm (k_eq hr.units (i_ix (fun _ _ => rfl) (iv_v (i := 1)) i_int) (i_len rfl T.b_len (iv_v (i := 0)))))))) (i_ix (fun _ _ => rfl) (iv_v (i := 1)) i_int) i_non))))
theorem sc__law_by_hand_right : FnScope ["_law_fine", "_law_bad", "_law_got", "_law_flat_here", "_law_own", "_law_goal", "_law_long"] [] (defScope s__law_by_hand_right) := ⟨rfl, rfl, rfl, by decide +kernel, rfl, by decide +kernel, by decide +kernel⟩
theorem ok__law_by_hand_right (T : Top K mg) (C__law_heard : Cal P w K mg base "_law_heard" 5 (spW (gam K) [] F__law_heard)) (C__law_same : Cal P w K mg base "_law_same" 41 (spW (gam K) [] (F__law_same 40))) (Me_Forest_len : MethD P w K mg base (gam K 3) "__len__" 1 (spW (gam K) [] F_Forest___len__)) (N_Forest_1 : MakD P w K mg base "Forest" (gam K 3) 2 [] (spN (gam K) 3 F_Forest___init__)) (Pr_Forest_depth : PropD P w K mg base (gam K 3) "depth" 1 (spW (gam K) [] F_Forest_depth)) (Pr_Forest_text : PropD P w K mg base (gam K 3) "text" 2 (spW (gam K) [] F_Forest_text)) (St_Forest_of : StaD P w K mg base (gam K 3) "of" 4 (spW (gam K) [] F_Forest_of)) (Fn : FnD K "_law_by_hand_right" "_law_by_hand_right" s__law_by_hand_right dvs f fd) : FnOk P w K mg base CX0 42 f fd [] (spOf K (spW (gam K) [] F__law_by_hand_right)) := by
  refine fn_ok (n := 41) (t := B__law_by_hand_right) (by rfl) Fn sc__law_by_hand_right fun cdv A outer s H E hr => ?_
  have sc := sc__law_by_hand_right
  exact (b_cons (r_set (i := 0) sc.nd rfl (.inl rfl) (.inr rfl) (IL.io (l_lst (a_cons (i_tup (a_cons i_str (a_cons (i_tup a_nil) a_nil))) (a_cons (i_tup (a_cons i_str (a_cons (i_tup (a_cons (i_tup (a_cons i_str (a_cons (i_tup a_nil) a_nil))) a_nil)) a_nil))) (a_cons (i_tup (a_cons i_str (a_cons (i_tup (a_cons (i_tup (a_cons i_str (a_cons (i_tup a_nil) a_nil))) (a_cons (i_tup (a_cons i_str (a_cons (i_tup a_nil) a_nil))) a_nil))) a_nil))) (a_cons (i_tup (a_cons i_str (a_cons (i_tup (a_cons (i_tup (a_cons i_str (a_cons (i_tup (a_cons (i_tup (a_cons i_str (a_cons (i_tup a_nil) a_nil))) a_nil)) a_nil))) a_nil)) a_nil))) a_nil))))))) (b_cons (r_expr (x_app (i := 0) rfl (.inl rfl) rfl rfl (IE.ix (i_tup (a_cons i_str (a_cons (i_tup (a_cons (i_tup (a_cons i_str (a_cons (i_tup (a_cons (i_tup (a_cons i_str (a_cons (i_tup (a_cons (i_tup (a_cons i_str (a_cons (i_tup a_nil) a_nil))) a_nil)) a_nil))) (a_cons (i_tup (a_cons i_str (a_cons (i_tup a_nil) a_nil))) a_nil))) a_nil))) (a_cons (i_tup (a_cons i_str (a_cons (i_tup a_nil) a_nil))) a_nil))) a_nil)))))) (b_cons (r_set (i := 1) sc.nd rfl (.inl rfl) (.inr rfl) (IE.io (IL.frz (l_lst (a_cons i_str (a_cons i_str (a_cons i_str (a_cons i_str (a_cons i_str (a_cons i_str (a_cons i_str (a_cons i_str (a_cons i_str (a_cons i_str (a_cons i_str (a_cons i_str (a_cons i_str (a_cons i_str (a_cons i_str a_nil))))))))))))))))))) (b_cons (r_set (i := 1) sc.nd rfl (.inl rfl) (.inr rfl) (IE.io (i_add (i_v (i := 1)) (IL.frz (l_lst (a_cons i_str (a_cons i_str (a_cons i_str (a_cons i_str (a_cons i_str (a_cons i_str (a_cons i_str (a_cons i_str (a_cons i_str (a_cons i_str (a_cons i_str (a_cons i_str a_nil))))))))))))))))) (b_cons (r_set (i := 1) sc.nd rfl (.inl rfl) (.inr rfl) (IE.io (i_add (i_v (i := 1)) (IL.frz (l_lst (a_cons i_str (a_cons i_str (a_cons i_str (a_cons i_str (a_cons i_str (a_cons i_str (a_cons i_str (a_cons i_str (a_cons i_str (a_cons i_str a_nil))))))))))))))) (b_frz (b_cons (r_set (i := 2) sc.nd rfl (.inl rfl) (.inr rfl) (IL.io (l_add (IE.iv (IL.frz (l_lc (own := [("_law_flat_here", 3), ("_law_own", 4)]) rfl sc.nd (blkOk_by rfl) (by decide) (n_any (i_v (i := 0))) (by decide) (fun s H C cl fp => (g_tup rfl (gs_cons (g_n (i := 3) sc.nd) (gs_cons (g_n (i := 4) sc.nd) gs_nil)) rfl)) (fun s H C cl fp => ts_nil) (fun s H C cl fp => (i_call C__law_heard (hr.mono (by omega)) rfl (w_nil (a_cons (i_v (i := 3)) a_nil))))))) (IE.iv (IL.frz (l_lc (own := [("_law_flat_here", 3), ("_law_own", 4)]) rfl sc.nd (blkOk_by rfl) (by decide) (n_any (i_v (i := 0))) (by decide) (fun s H C cl fp => (g_tup rfl (gs_cons (g_n (i := 3) sc.nd) (gs_cons (g_n (i := 4) sc.nd) gs_nil)) rfl)) (fun s H C cl fp => ts_nil) (fun s H C cl fp => (i_prop (c := 3) T.cl_Forest Pr_Forest_text (hr.mono (by omega)) (i_make (c := 3) (ad := []) N_Forest_1 (hr.mono (by omega)) rfl (fun ρ => by simp only [rnL, rn]) (a_cons (i_v (i := 4)) a_nil)))))))))) (b_cons (r_set (i := 5) sc.nd rfl (.inl rfl) (.inr rfl) (IE.io (i_add (IL.frz (l_lc (own := [("_law_flat_here", 3), ("_law_own", 4)]) rfl sc.nd (blkOk_by rfl) (by decide) (n_any (i_v (i := 0))) (by decide) (fun s H C cl fp => (g_tup rfl (gs_cons (g_n (i := 3) sc.nd) (gs_cons (g_n (i := 4) sc.nd) gs_nil)) rfl)) (fun s H C cl fp => ts_nil) (fun s H C cl fp => (i_v (i := 4))))) (IL.frz (l_lc (own := [("_law_flat_here", 3), ("_law_own", 4)]) rfl sc.nd (blkOk_by rfl) (by decide) (n_any (i_v (i := 0))) (by decide) (fun s H C cl fp => (g_tup rfl (gs_cons (g_n (i := 3) sc.nd) (gs_cons (g_n (i := 4) sc.nd) gs_nil)) rfl)) (fun s H C cl fp => ts_nil) (fun s H C cl fp => (i_v (i := 3)))))))) (b_cons (r_set (i := 6) sc.nd rfl (.inl rfl) (.inr rfl) (IE.io (i_add (i_add (i_smul i_str i_int) i_str) (i_smul i_str i_int)))) (b_cons (r_set (i := 2) sc.nd rfl (.inl rfl) (.inr rfl) (IL.io (l_add (iv_v (i := 2)) (IE.iv (IL.frz (l_lst (a_cons (i_prop (c := 3) T.cl_Forest Pr_Forest_depth (hr.mono (by omega)) (i_static (c0 := 3) St_Forest_of (hr.mono (by omega)) T.g_Forest rfl (w_nil (a_cons (i_v (i := 6)) a_nil)))) (a_cons (i_cm (k_eq hr.units (i_prop (c := 3) T.cl_Forest Pr_Forest_text (hr.mono (by omega)) (i_static (c0 := 3) St_Forest_of (hr.mono (by omega)) T.g_Forest rfl (w_nil (a_cons (i_v (i := 6)) a_nil)))) (i_v (i := 6)))) (a_cons (i_call C__law_heard (hr.mono (by omega)) rfl (w_nil (a_cons (i_sl01 (iv_v (i := 6)) (i_neg i_int)) a_nil))) a_nil))))))))) (b_cons (r_expr (x_app (i := 2) rfl (.inl rfl) rfl rfl (IE.ix (i_ownLen (c := 3) Me_Forest_len (hr.mono (by omega)) rfl T.b_len (i_static (c0 := 3) St_Forest_of (hr.mono (by omega)) T.g_Forest rfl (w_nil (a_cons (i_add (i_smul i_str i_int) i_str) a_nil))))))) (b_frz (b_one (r_ret (i_call C__law_same (hr.mono (by omega)) rfl (w_nil (a_cons (IL.frz (l_add (iv_v (i := 2)) (IE.iv (IL.frz (l_lc (own := [("_law_flat_here", 3)]) rfl sc.nd (blkOk_by rfl) (by decide) (n_any (i_v (i := 1))) (by decide) (fun s H C cl fp => (g_n (i := 3) sc.nd)) (fun s H C cl fp => ts_nil) (fun s H C cl fp => (i_call C__law_heard (hr.mono (by omega)) rfl (w_nil (a_cons (i_v (i := 3)) a_nil))))))))) (a_cons (i_add (i_add (i_v (i := 5)) (IL.frz (l_lst (a_cons i_int (a_cons i_bl (a_cons i_non (a_cons i_int a_nil))))))) (i_mul (IL.frz (l_lst (a_cons i_non a_nil))) (i_len rfl T.b_len (iv_v (i := 1))))) a_nil))))))))))))))))))
theorem sc__law_right : FnScope ["_law_urn", "_law_turn", "_law_rows_so", "_law_trees_so", "_law_flat_here", "_law_lap", "_law_k", "_law_sign", "_law_bent", "_law_own"] ["_law_urn"] (defScope s__law_right) := ⟨rfl, rfl, rfl, by decide +kernel, rfl, by decide +kernel, by decide +kernel⟩
theorem ok__law_right (T : Top K mg) (C__law_by_hand_right : Cal P w K mg base "_law_by_hand_right" 42 (spW (gam K) [] F__law_by_hand_right)) (C__law_flat : Cal P w K mg base "_law_flat" 17 (spW (gam K) [] (F__law_flat 16))) (C__law_heard : Cal P w K mg base "_law_heard" 5 (spW (gam K) [] F__law_heard)) (C__law_of : Cal P w K mg base "_law_of" 2 (spW (gam K) [false, true] F__law_of)) (C__law_read : Cal P w K mg base "_law_read" 64 (spW (gam K) [] F__law_read)) (C__law_rows : Cal P w K mg base "_law_rows" 3 (spW (gam K) [] F__law_rows)) (C__law_same : Cal P w K mg base "_law_same" 41 (spW (gam K) [] (F__law_same 40))) (C__law_tags : Cal P w K mg base "_law_tags" 3 (spW (gam K) [] F__law_tags)) (C__law_take : Cal P w K mg base "_law_take" 1 (spW (gam K) [] takeP)) (C__law_trees : Cal P w K mg base "_law_trees" 17 (spW (gam K) [] (F__law_trees 16))) (N_Forest_1 : MakD P w K mg base "Forest" (gam K 3) 2 [] (spN (gam K) 3 F_Forest___init__)) (Pr_Forest_text : PropD P w K mg base (gam K 3) "text" 2 (spW (gam K) [] F_Forest_text)) (Fn : FnD K "_law_right" "_law_right" s__law_right dvs f fd) : FnOk P w K mg base CX0 65 f fd ["_law_urn"] (spOf K (spW (gam K) [] F__law_right)) := by
  refine fn_ok (n := 64) (t := B__law_right) (by rfl) Fn sc__law_right fun cdv A outer s H E hr => ?_
  have sc := sc__law_right
  exact (b_cons (r_if (t_not (t_truth (fun _ => rfl) (IE.iv (i_call0 C__law_by_hand_right (hr.mono (by omega)) rfl)))) (b_one (r_ret i_bl)) b_nil) (b_cons (r_for PassesOwn.never rfl (n_rg1 rfl T.b_range i_int) (g_n (i := 1) sc.nd) (b_cons (r_set (i := 2) sc.nd rfl (.inl rfl) (.inr rfl) (IE.io (i_call C__law_rows (hr.mono (by omega)) rfl (w_nil (a_cons (i_v (i := 0)) (a_cons (i_call C__law_tags (hr.mono (by omega)) rfl (w_nil (a_cons (i_v (i := 0)) (a_cons i_int a_nil)))) (a_cons i_int a_nil))))))) (b_cons (r_set (i := 3) sc.nd rfl (.inl rfl) (.inr rfl) (IE.io (i_call C__law_trees (hr.mono (by omega)) rfl (w_nil (a_cons (i_v (i := 2)) a_nil))))) (b_cons (r_set (i := 4) sc.nd rfl (.inl rfl) (.inr rfl) (IE.io (i_call C__law_flat (hr.mono (by omega)) rfl (w_nil (a_cons (i_v (i := 3)) a_nil))))) (b_cons (r_if (t_not (t_truth (fun _ => rfl) (IE.iv (i_call C__law_same (hr.mono (by omega)) rfl (w_nil (a_cons (IL.frz (l_lst (a_cons (i_call C__law_heard (hr.mono (by omega)) rfl (w_nil (a_cons (i_v (i := 4)) a_nil))) (a_cons (i_prop (c := 3) T.cl_Forest Pr_Forest_text (hr.mono (by omega)) (i_make (c := 3) (ad := []) N_Forest_1 (hr.mono (by omega)) rfl (fun ρ => by simp only [rnL, rn]) (a_cons (i_v (i := 3)) a_nil))) a_nil)))) (a_cons (IL.frz (l_lst (a_cons (i_v (i := 3)) (a_cons (i_v (i := 4)) a_nil)))) a_nil))))))) (b_one (r_ret i_bl)) b_nil) (b_one (r_for PassesOwn.never rfl (n_rg1 rfl T.b_range i_int) (g_n (i := 5) sc.nd) (b_cons (r_par (i := 6) (j := 7) rfl sc.nd rfl rfl (by decide) rfl rfl rfl (IE.io (i_call C__law_take (hr.mono (by omega)) rfl (w_nil (a_cons (i_v (i := 0)) (a_cons (i_len rfl T.b_len (iv_v (i := 4))) a_nil))))) (IE.io (i_call C__law_of (hr.mono (by omega)) rfl (w_v (i_v (i := 0)) (w_w (IE.iv (IL.frz (l_lst (a_cons i_str (a_cons i_str (a_cons i_str (a_cons i_str (a_cons i_str (a_cons i_str (a_cons i_str (a_cons i_str (a_cons i_str a_nil)))))))))))) (w_nil a_nil)))))) (b_cons (r_set (i := 8) sc.nd rfl (.inl rfl) (.inr rfl) (IE.io (IL.frz (l_lst (a_cons (i_add (i_add (i_sl01 (iv_v (i := 4)) (i_v (i := 6))) (i_v (i := 7))) (i_sl10 (iv_v (i := 4)) (i_v (i := 6)))) (a_cons (i_add (i_sl01 (iv_v (i := 4)) (i_v (i := 6))) (i_sl10 (iv_v (i := 4)) (i_add (i_v (i := 6)) i_int))) (a_cons (i_add (i_add (i_sl01 (iv_v (i := 4)) (i_v (i := 6))) (i_v (i := 7))) (i_sl10 (iv_v (i := 4)) (i_add (i_v (i := 6)) i_int))) (a_cons (i_add (i_v (i := 4)) (i_v (i := 7))) a_nil)))))))) (b_one (r_if (t_not (t_truth (fun _ => rfl) (IE.iv (i_call C__law_same (hr.mono (by omega)) rfl (w_nil (a_cons (IL.frz (l_lc (own := [("_law_own", 9)]) rfl sc.nd (blkOk_by rfl) (by decide) (n_any (i_v (i := 8))) (by decide) (fun s H C cl fp => (g_n (i := 9) sc.nd)) (fun s H C cl fp => ts_nil) (fun s H C cl fp => (i_call C__law_heard (hr.mono (by omega)) rfl (w_nil (a_cons (i_v (i := 9)) a_nil)))))) (a_cons (IL.frz (l_lc (own := [("_law_own", 9)]) rfl sc.nd (blkOk_by rfl) (by decide) (n_any (i_v (i := 8))) (by decide) (fun s H C cl fp => (g_n (i := 9) sc.nd)) (fun s H C cl fp => ts_nil) (fun s H C cl fp => (i_call C__law_read (hr.mono (by omega)) rfl (w_nil (a_cons (i_v (i := 9)) a_nil)))))) a_nil))))))) (b_one (r_ret i_bl)) b_nil))))))))))) (b_one (r_ret i_bl))))
theorem sc_law : FnScope ["_law_script", "_law_cells_here", "_law_k"] ["_law_script"] (defScope s_law) := ⟨rfl, rfl, rfl, by decide +kernel, rfl, by decide +kernel, by decide +kernel⟩
theorem ok_law (T : Top K mg) (C__law_cells : Cal P w K mg base "_law_cells" 1 (spW (gam K) [] F__law_cells)) (C__law_right : Cal P w K mg base "_law_right" 65 (spW (gam K) [] F__law_right)) (C_box : Cal P w K mg base "_law_box" 1 spBox) (W__law_right : WpE F__law_right) (Fn : FnD K "law" "law" s_law dvs f fd) : FnOk P w K mg base CX0 66 f fd ["_law_script"] (spOf K (spW (gam K) [] F_law)) := by
  refine fn_ok (n := 65) (t := B_law) (by rfl) Fn sc_law fun cdv A outer s H E hr => ?_
  have sc := sc_law
  exact (b_cons (r_set (i := 1) sc.nd rfl (.inr rfl) (.inl rfl) (IE.io (i_call C__law_cells (hr.mono (by omega)) rfl (w_nil (a_cons (i_v (i := 0)) (a_cons i_int a_nil)))))) (b_one (r_ret (i_all rfl rfl T.b_all (IE.iv (IL.frz (l_lc (own := [("_law_k", 2)]) rfl sc.nd (blkOk_by rfl) (by decide) (n_rg1 rfl T.b_range (i_len rfl T.b_len (iv_var (i := 1) rfl (.inr (.inl rfl)) rfl rfl))) (by decide) (fun s H C cl fp => (g_n (i := 2) sc.nd)) (fun s H C cl fp => ts_nil) (fun s H C cl fp => (i_boxE C_box C__law_right (hr.mono (by omega)) (hr.mono (by omega)) rfl rfl W__law_right (i_var (i := 1) rfl (by first | exact .inl rfl | exact .inr (.inl rfl) | exact .inr (.inr rfl)) rfl rfl) (i_v (i := 2)))))))))))
end
end Q03
end
section
set_option Elab.async false
set_option linter.all false
set_option maxRecDepth 100000
namespace Q03
open PySem L2 DL
local macro_rules | `(tactic| tm_at "size") => `(tactic| first | decide | assumption | omega | (simp [PySem.sizeLine_eq]; done) | (simp [PySem.sizeLine_eq]; omega) | (simp [PySem.sizeLine_eq] at *; omega))
local macro_rules | `(tactic| tm_at "rng") => `(tactic| first | decide | (constructor <;> omega) | (refine ⟨?_, ?_, ?_, ?_⟩ <;> omega) | (simp; omega))
local macro_rules | `(tactic| tm_at "at") => `(tactic| first | exact rfl | exact at_cell (by assumption) rfl | exact at_cell mup_same rfl)
local macro_rules | `(tactic| tm_at "cell") => `(tactic| first | assumption | exact mup_same | (rw [mup_ne (by assumption)]; assumption) | (rw [mup_ne (Ne.symm (by assumption))]; assumption))
local macro_rules | `(tactic| tm_at "add") => `(tactic| first | refine add_int ?_ | refine add_str (by tm_at "size") ?_ | refine add_lst (by tm_at "size") ?_ | refine add_tup (by tm_at "size") ?_)
local macro_rules | `(tactic| tm_at "num") => `(tactic| refine num_int ?_)
local macro_rules | `(tactic| tm_at "mulok") => `(tactic| first | exact CMul.ok (.inl (by constructor <;> omega)) | exact CMul.ok (.inr (by constructor <;> omega)))
local macro_rules | `(tactic| tm_at "mul") => `(tactic| first | refine DL.mul_int (by tm_at "mulok") ?_ | refine mul_lst (by decide) ?_)
local macro_rules | `(tactic| tm_at "intc") => `(tactic| first | decide | omega | assumption | exact ⟨by decide, by decide⟩ | exact ⟨by omega, by assumption⟩ | exact ⟨by decide, by decide, by decide⟩)
local macro_rules | `(tactic| tm_at "intp") => `(tactic| refine intp_int (by tm_at "intc") ?_)
local macro_rules | `(tactic| tm_at "co") => `(tactic| first | refine DL.lt_int ?_ | refine DL.le_int ?_ | refine DL.gt_int ?_ | refine DL.ge_int ?_)
local macro_rules | `(tactic| tm_at "eq") => `(tactic| first | refine DL.eq_int ?_ | refine DL.eq_str ?_ | refine DL.eq_bl ?_ | refine DL.eq_non ?_ | refine DL.eq_nonI ?_)
local macro_rules | `(tactic| tm_at "noteq") => `(tactic| first | refine DL.ne_int ?_ | refine DL.ne_str ?_ | refine DL.ne_bl ?_)
local macro_rules | `(tactic| tm_at "sl") => `(tactic| first | refine sl_tup ?_ | refine DL.sl_lst ?_ | refine sl_frl ?_ | refine DL.sl_str (by tm_at "size") ?_)
local macro_rules | `(tactic| tm_at "strs") => `(tactic| first | rfl | exact strL rfl | assumption)
local macro_rules | `(tactic| tm_at "seq") => `(tactic| first | rfl | assumption)
local macro_rules | `(tactic| tm_at "in") => `(tactic| refine .inl ⟨_, _, _, rfl, rfl, rfl, ?_⟩)
local macro_rules | `(tactic| tm_at "nm") => `(tactic| first | assumption | exact nm_nil | exact nm_ss (by tm_at "nm") | exact nm_andN (by tm_at "nm") (by tm_at "nm"))
local macro_rules | `(tactic| tm_at "jsize") => `(tactic| first | exact jsz (by tm_at "nm") (by tm_at "size") (by decide))
local macro_rules | `(tactic| tm_at "jsize2") => `(tactic| exact Nat.le_trans (Nat.add_le_add_left (jsz2 (by tm_at "nm") (by tm_at "size") (by decide)) _) (by decide))
section
variable {P : Program} {w : World} {K : PySem.W.Frag} {mg : Str → Option Value} {base : Heap} {M : Store}
theorem box_pos (i : Int) (c : Bool) : 0 ≤ (if i < 0 then -i else i) * (if c = true then 1 else 0) := by
  split <;> split <;> omega
theorem small01 (c : Bool) : -(2 ^ 64) < (if c = true then (1 : Int) else 0) ∧ (if c = true then (1 : Int) else 0) < 2 ^ 64 := by cases c <;> decide
theorem atI_ints {ns : List Int} {j : Nat} (h : j < ns.length) : atD M (.lst (ns.map D.int)) (j : Nat) = some (.int ns[j]) := by
  show atI (ns.map D.int) (j : Nat) = _
  refine DL.atI_nat ?_
  rw [List.getElem?_map, List.getElem?_eq_getElem h]
  rfl
theorem sc__law_take : FnScope ["_law_urn", "_law_low_so", "_law_drawn", "_law_once", "_law_far", "_law_twice"] ["_law_urn", "_law_low_so"] (defScope s__law_take) := ⟨rfl, rfl, rfl, by decide +kernel, rfl, by decide +kernel, by decide +kernel⟩
set_option maxHeartbeats 4000000 in
theorem ok__law_take (T : Top K mg)   {f : Addr} {fd : FuncData} {dvs : List V} (Fn : FnD K "_law_take" "_law_take" s__law_take dvs f fd) : FnOk P w K mg base CX0 (0 + 1) f fd ["_law_urn", "_law_low_so"] (spOf K spTake) := by
  refine ok_dD Fn sc__law_take (fun ds M k h => by obtain ⟨u, low, n, rfl, _⟩ := h; rfl) fun cdv A outer s H E ds M k hr h => ?_
  have sc := sc__law_take
  obtain ⟨u, low, n, rfl, hl, hb, ⟨a, b, c, hM, ha, hb0, hb1, hc, hcn⟩, hk⟩ := h
  refine ss_cons ?_
  refine s_if ?_
  refine te_c1 (by first | exact nomark _ | rfl) ?_
  refine c_co ?_
  refine ev_ix (fun _ _ => rfl) ?_
  refine ev_var (i := 0) rfl (.inl rfl) rfl rfl rfl ?_
  refine ev_int ?_
  refine ⟨_, _, rfl, by tm_at "at", ?_⟩
  refine ev_int ?_
  tm_at "co"
  refine ⟨_, rfl, ?_⟩
  refine iteB (fun h1 => ?_) (fun h1 => ?_)
  · refine ss_cons ?_
    refine s_set (i := 2) sc.nd rfl (.inl rfl) (.inr rfl) ?_
    refine ev_mod ?_
    refine ev_intc rfl T.b_int ?_
    refine ev_ix (fun _ _ => rfl) ?_
    refine ev_var (i := 0) rfl (.inl rfl) rfl rfl rfl ?_
    refine ev_int ?_
    refine ⟨_, _, rfl, by tm_at "at", ?_⟩
    first | refine intc_int ?_ | refine intc_bl ?_
    refine ev_var (i := 1) rfl (.inl rfl) rfl rfl rfl ?_
    tm_at "intp"
    refine ss_cons ?_
    refine s_put ?_
    refine ev_fdiv ?_
    refine ev_ix (fun _ _ => rfl) ?_
    refine ev_var (i := 0) rfl (.inl rfl) rfl rfl rfl ?_
    refine ev_int ?_
    refine ⟨_, _, rfl, by tm_at "at", ?_⟩
    refine ev_var (i := 1) rfl (.inl rfl) rfl rfl rfl ?_
    tm_at "intp"
    refine ev_var (i := 0) rfl (.inl rfl) rfl rfl rfl ?_
    refine ev_int ?_
    refine ⟨_, _, _, _, rfl, rfl, by tm_at "cell", rfl, ?_⟩
    refine ss_one ?_
    refine s_ret ?_
    refine ev_var (i := 2) rfl (.inl rfl) rfl rfl rfl ?_
    have ha' : 0 ≤ a / low := Int.ediv_nonneg ha (by omega)
    exact hk _ _ (Int.emod_nonneg _ (by omega)) (Int.emod_lt_of_pos _ hl) Keep.mup ⟨_, b, c, mup_same, ha', hb0, hb1, hc, by omega⟩
  · refine ss_nil ?_
    refine ss_cons ?_
    refine s_put ?_
    refine ev_add ?_
    refine ev_ix (fun _ _ => rfl) ?_
    refine ev_var (i := 0) rfl (.inl rfl) rfl rfl rfl ?_
    refine ev_int ?_
    refine ⟨_, _, rfl, by tm_at "at", ?_⟩
    refine ev_int ?_
    tm_at "add"
    refine ev_var (i := 0) rfl (.inl rfl) rfl rfl rfl ?_
    refine ev_int ?_
    refine ⟨_, _, _, _, rfl, rfl, by tm_at "cell", rfl, ?_⟩
    refine ss_cons ?_
    refine s_set (i := 3) sc.nd rfl (.inl rfl) (.inr rfl) ?_
    refine ev_mod ?_
    refine ev_intc rfl T.b_int ?_
    refine ev_mul ?_
    refine ev_add ?_
    refine ev_ix (fun _ _ => rfl) ?_
    refine ev_var (i := 0) rfl (.inl rfl) rfl rfl rfl ?_
    refine ev_int ?_
    refine ⟨_, _, rfl, by tm_at "at", ?_⟩
    refine ev_mul ?_
    refine ev_int ?_
    refine ev_ix (fun _ _ => rfl) ?_
    refine ev_var (i := 0) rfl (.inl rfl) rfl rfl rfl ?_
    refine ev_int ?_
    refine ⟨_, _, rfl, by tm_at "at", ?_⟩
    tm_at "mul"
    tm_at "add"
    refine ev_add ?_
    refine ev_int ?_
    refine ev_ix (fun _ _ => rfl) ?_
    refine ev_var (i := 0) rfl (.inl rfl) rfl rfl rfl ?_
    refine ev_int ?_
    refine ⟨_, _, rfl, by tm_at "at", ?_⟩
    tm_at "add"
    refine DL.mul_int (CMul.ok (.inr (by constructor <;> omega))) ?_
    first | refine intc_int ?_ | refine intc_bl ?_
    refine ev_int ?_
    tm_at "intp"
    refine ss_cons ?_
    refine s_set (i := 4) sc.nd rfl (.inl rfl) (.inr rfl) ?_
    refine ev_add ?_
    refine ev_mod ?_
    refine ev_intc rfl T.b_int ?_
    refine ev_var (i := 3) rfl (.inl rfl) rfl rfl rfl ?_
    first | refine intc_int ?_ | refine intc_bl ?_
    refine ev_int ?_
    tm_at "intp"
    refine ev_int ?_
    tm_at "add"
    refine ss_cons ?_
    refine s_set (i := 5) sc.nd rfl (.inl rfl) (.inr rfl) ?_
    refine ev_mod ?_
    refine ev_intc rfl T.b_int ?_
    refine ev_mul ?_
    refine ev_add ?_
    refine ev_add ?_
    refine ev_var (i := 3) rfl (.inl rfl) rfl rfl rfl ?_
    refine ev_ix (fun _ _ => rfl) ?_
    refine ev_var (i := 0) rfl (.inl rfl) rfl rfl rfl ?_
    refine ev_int ?_
    refine ⟨_, _, rfl, by tm_at "at", ?_⟩
    tm_at "add"
    refine ev_fdiv ?_
    refine ev_ix (fun _ _ => rfl) ?_
    refine ev_var (i := 0) rfl (.inl rfl) rfl rfl rfl ?_
    refine ev_int ?_
    refine ⟨_, _, rfl, by tm_at "at", ?_⟩
    refine ev_int ?_
    tm_at "intp"
    tm_at "add"
    refine ev_var (i := 4) rfl (.inl rfl) rfl rfl rfl ?_
    tm_at "mul"
    first | refine intc_int ?_ | refine intc_bl ?_
    refine ev_int ?_
    tm_at "intp"
    refine ss_one ?_
    refine s_ret ?_
    refine ev_mod ?_
    refine ev_intc rfl T.b_int ?_
    refine ev_fdiv ?_
    refine ev_mod ?_
    refine ev_intc rfl T.b_int ?_
    refine ev_add ?_
    refine ev_mul ?_
    refine ev_var (i := 5) rfl (.inl rfl) rfl rfl rfl ?_
    refine ev_int ?_
    tm_at "mul"
    refine ev_var (i := 3) rfl (.inl rfl) rfl rfl rfl ?_
    tm_at "add"
    first | refine intc_int ?_ | refine intc_bl ?_
    refine ev_int ?_
    tm_at "intp"
    refine ev_int ?_
    tm_at "intp"
    first | refine intc_int ?_ | refine intc_bl ?_
    refine ev_var (i := 1) rfl (.inl rfl) rfl rfl rfl ?_
    tm_at "intp"
    exact hk _ _ (Int.emod_nonneg _ (by omega)) (Int.emod_lt_of_pos _ hl) Keep.mup ⟨a, b, c + 1, mup_same, ha, hb0, hb1, by omega, by omega⟩
theorem sc__law_box : FnScope ["_law_script", "_law_k", "_law_cell"] ["_law_script", "_law_k"] (defScope s__law_box) := ⟨rfl, rfl, rfl, by decide +kernel, rfl, by decide +kernel, by decide +kernel⟩
set_option maxHeartbeats 4000000 in
theorem ok__law_box (T : Top K mg)   {f : Addr} {fd : FuncData} {dvs : List V} (Fn : FnD K "_law_box" "_law_box" s__law_box dvs f fd) : FnOk P w K mg base CX0 (0 + 1) f fd ["_law_script", "_law_k"] (spOf K spBox) := by
  refine ok_dD Fn sc__law_box (fun ds M k h => by obtain ⟨ns, j, rfl, _⟩ := h; rfl) fun cdv A outer s H E ds M k hr h => ?_
  have sc := sc__law_box
  obtain ⟨ns, j, rfl, hj, hj2, hk⟩ := h
  refine ss_cons ?_
  refine s_set (i := 2) sc.nd rfl (.inl rfl) (.inr rfl) ?_
  refine ev_if ?_
  refine te_c1 (by first | exact nomark _ | rfl) ?_
  refine c_co ?_
  refine ev_var (i := 1) rfl (.inl rfl) rfl rfl rfl ?_
  refine ev_len rfl T.b_len ?_
  refine ev_var (i := 0) rfl (.inl rfl) rfl rfl rfl ?_
  refine ⟨_, rfl, ?_⟩
  tm_at "co"
  refine ⟨_, rfl, ?_⟩
  refine iteB (fun h1 => ?_) (fun h1 => ?_)
  · refine ev_ix (fun _ _ => rfl) ?_
    refine ev_var (i := 0) rfl (.inl rfl) rfl rfl rfl ?_
    refine ev_var (i := 1) rfl (.inl rfl) rfl rfl rfl ?_
    refine ⟨_, .int (ns[j]), rfl, ?_, ?_⟩
    · exact atI_ints hj
    refine ss_one ?_
    refine s_ret ?_
    refine EvL.cell ?_
    refine el_lst ?_
    refine ea_cons ?_
    refine ev_mul ?_
    refine ev_abs rfl T.b_abs ?_
    refine ev_var (i := 2) rfl (.inl rfl) rfl rfl rfl ?_
    refine num1_int ?_
    refine ev_intc rfl T.b_int ?_
    refine ev_c1 (by first | exact nomark _ | rfl) ?_
    refine c_co ?_
    refine ev_abs rfl T.b_abs ?_
    refine ev_var (i := 2) rfl (.inl rfl) rfl rfl rfl ?_
    refine num1_int ?_
    refine ev_pow ?_
    refine ev_int ?_
    refine ev_int ?_
    tm_at "intp"
    tm_at "co"
    first | refine intc_int ?_ | refine intc_bl ?_
    refine DL.mul_int (CMul.ok (.inr (small01 _))) ?_
    refine ea_cons ?_
    refine ev_add ?_
    refine ev_add ?_
    refine ev_mod ?_
    refine ev_intc rfl T.b_int ?_
    refine ev_var (i := 2) rfl (.inl rfl) rfl rfl rfl ?_
    first | refine intc_int ?_ | refine intc_bl ?_
    refine ev_int ?_
    tm_at "intp"
    refine ev_mul ?_
    refine ev_int ?_
    refine ev_var (i := 1) rfl (.inl rfl) rfl rfl rfl ?_
    tm_at "mul"
    tm_at "add"
    refine ev_int ?_
    tm_at "add"
    refine ea_cons ?_
    refine ev_int ?_
    refine ea_nil ?_
    refine ⟨by tm_at "size", ?_⟩
    intro q2 nq2
    have hm := Int.emod_nonneg (ns[j]) (show (2305843009213693951 : Int) ≠ 0 by decide)
    have hm2 := Int.emod_lt_of_pos (ns[j]) (show (0 : Int) < 2305843009213693951 by decide)
    refine hk _ _ (Keep0.refl.new nq2) nq2 ⟨_, _, _, mup_same, ?_, ?_, ?_, by decide, by decide⟩
    · exact box_pos _ _
    · omega
    · omega
  · exact absurd h1 (by simp; omega)
end
end Q03
end
section
set_option Elab.async false
set_option linter.all false
set_option maxRecDepth 100000
/-! plain evaluation -/
namespace DL
open PySem
theorem unS_map : ∀ xs : List Str, unS (xs.map D.str) = some xs
  | [] => rfl
  | x :: xs => by
    show (unS (xs.map D.str)).map (x :: ·) = _
    rw [unS_map xs]; rfl
theorem unI_map : ∀ xs : List Int, unI (xs.map D.int) = some xs
  | [] => rfl
  | x :: xs => by
    show (unI (xs.map D.int)).map (x :: ·) = _
    rw [unI_map xs]; rfl
theorem unB_map : ∀ xs : List Bool, unB (xs.map D.bl) = some xs
  | [] => rfl
  | x :: xs => by
    show (unB (xs.map D.bl)).map (x :: ·) = _
    rw [unB_map xs]; rfl
section
variable {α β : Type} {a : α} {f : α → Pg β} {x y : D} {r : List Sl} {i : Nat} {z : Sl} {Δ : List Sl} {d : D}
theorem bind_ret : (Pg.ret a).bind f = f a := rfl
theorem bind_fail : (Pg.fail : Pg α).bind f = .fail := rfl
theorem bind_draw {low : Int} {g : Int → Pg α} : (Pg.draw low g).bind f = .draw low fun d => (g d).bind f := rfl
theorem intOf_e {i : Int} : intOf (.int i) = some i := rfl
theorem ownL_z {ds : List D} : ownL (.o (.lst ds) :: r) 0 = some ds := rfl
theorem ownL_s : ownL (z :: r) (i + 1) = ownL r i := rfl
theorem xApp_e {s : SX} : xApp i s Δ = (ofO (ownL Δ i)).bind fun _ => (s Δ).bind fun r => (ofO (ownL r.2 i)).bind fun ds => if ds.length < lim then .ret (.non, r.2.set i (.o (.lst (ds ++ [r.1])))) else .fail := rfl
theorem xPop_e {s : SE} : xPop i s Δ = (ofO (ownL Δ i)).bind fun ds => (s Δ).bind fun y => (ofO (intOf y)).bind fun z => if inR z = true then (ofO (seqIndex? z ds.length)).bind fun j => (ofO ds[j]?).bind fun r => .ret (r, Δ.set i (.o (.lst (ds.eraseIdx j)))) else .fail := rfl
theorem ofO_some : ofO (some a) = .ret a := rfl
theorem cVar_z : cVar 0 (.v d :: r) = .ret d := rfl
theorem cVar_s : cVar (i + 1) (z :: r) = cVar i r := rfl
theorem cVw_z : cVw 0 (.v d :: r) = .ret d := rfl
theorem cVw_w : cVw 0 (.w d :: r) = .ret d := rfl
theorem cVw_o {ds : List D} : cVw 0 (.o (.lst ds) :: r) = .ret (.lst ds) := rfl
theorem cVw_s : cVw (i + 1) (z :: r) = cVw i r := rfl
theorem cC_e : cC d Δ = .ret d := rfl
theorem c1_e {g : D → Option D} {s : SE} : c1 g s Δ = (s Δ).bind fun x => ofO (g x) := rfl
theorem c2_e {g : D → D → Option D} {s t : SE} : c2 g s t Δ = (s Δ).bind fun x => (t Δ).bind fun y => ofO (g x y) := rfl
theorem aN_e : aN Δ = .ret [] := rfl
theorem aC_e {s : SE} {t : SA} : aC s t Δ = (s Δ).bind fun d => (t Δ).bind fun ds => .ret (d :: ds) := rfl
theorem cL_e {s : SA} : cL s Δ = (s Δ).bind fun ds => .ret (.lst ds) := rfl
theorem cCall_e {F : List D → Pg D} {s : SA} : cCall F s Δ = (s Δ).bind F := rfl
theorem cMk_e {c : Nat} {F : List D → Pg D} {s : SA} {ad : List D} : cMk c F s ad Δ = (s Δ).bind fun ds => mkP c F (ds ++ ad) := rfl
theorem cIf_e {t : SB} {s r : SE} : cIf t s r Δ = (t Δ).bind fun c => if c = true then s Δ else r Δ := rfl
theorem tB_e {s : SE} : tB s Δ = (s Δ).bind fun d => ofO (toB d) := rfl
theorem tT_e {s : SE} : tT s Δ = (s Δ).bind fun d => ofO (truO d) := rfl
theorem tNot_e {s : SB} : tNot s Δ = (s Δ).bind fun d => .ret (!d) := rfl
theorem tAnd_e {s t : SB} : tAnd s t Δ = (s Δ).bind fun c => if c = true then t Δ else .ret false := rfl
theorem tOr_e {s t : SB} : tOr s t Δ = (s Δ).bind fun c => if c = true then .ret true else t Δ := rfl
theorem eAnd_e {s t : SE} : eAnd s t Δ = (s Δ).bind fun d => (ofO (toB d)).bind fun c => if c = true then t Δ else .ret (.bl false) := rfl
theorem eOr_e {s t : SE} : eOr s t Δ = (s Δ).bind fun d => (ofO (truO d)).bind fun c => if c = true then .ret d else t Δ := rfl
theorem cNot_e {s : SE} : cNot s Δ = (s Δ).bind fun d => (ofO (toB d)).bind fun c => .ret (.bl (!c)) := rfl
theorem toB_e {c : Bool} : toB (.bl c) = some c := rfl
theorem truO_bl {c : Bool} : truO (.bl c) = some c := rfl
theorem cTup_e {s : SA} : cTup s Δ = (s Δ).bind fun ds => if ds.length ≤ lim then .ret (.tup ds) else .fail := rfl
theorem aL_e {s : SA} : aL s Δ = (s Δ).bind fun ds => if ds.length ≤ lim then .ret ds else .fail := rfl
theorem cProp_e {c : Nat} {F : List D → Pg D} {s : SE} : cProp c F s Δ = (s Δ).bind fun d => if isC c d = true then F [d] else .fail := rfl
theorem cOwn_e {c : Nat} {F : List D → Pg D} {s t : SE} : cOwn c F s t Δ = (s Δ).bind fun d => (t Δ).bind fun d2 => if (isC c d && isC c d2) = true then F [d, d2] else .fail := rfl
theorem cOwnIn_e {neg : Bool} {c : Nat} {F : List D → Pg D} {s t : SE} : cOwnIn neg c F s t Δ = (s Δ).bind fun d => (t Δ).bind fun d2 => if isC c d2 = true then (F [d2, d]).bind fun r => (ofO (toB r)).bind fun z => .ret (.bl (if neg then !z else z)) else .fail := rfl
theorem aLc_e {tg : Tg} {vs : List Nat} {it : SA} {t : SB} {el : SE} : aLc tg vs it t el Δ = (it Δ).bind fun ds => if ds.length ≤ lim then lcP tg t el (wipeS Δ vs) ds else .fail := rfl
theorem aIt_e {s : SE} : aIt s Δ = (s Δ).bind fun d => ofO (itO d) := rfl
theorem aSort_e {s : SE} : aSort s Δ = (s Δ).bind fun d => ofO ((lsV d).bind srtO) := rfl
theorem aRg1_e {s : SE} : aRg1 s Δ = (s Δ).bind fun d => ofO (rg1 d) := rfl
theorem aZip_e {s t : SE} : aZip s t Δ = (s Δ).bind fun d => (t Δ).bind fun c => ofO (zip2 d c) := rfl
theorem aEnum_e {s : SE} : aEnum s Δ = (s Δ).bind fun d => ofO ((lsV d).map enumD) := rfl
theorem aList_e {s : SE} : aList s Δ = (s Δ).bind fun d => ofO (itemsV d) := rfl
theorem tSeq_e {t r : ST} : DL.tSeq t r Δ = (t Δ).bind fun o => match o with
  | .nx Δ1 => r Δ1
  | o => .ret o := rfl
theorem tNil_e : DL.tNil Δ = .ret (.nx Δ) := rfl
theorem tRet_e {s : SE} : DL.tRet s Δ = (s Δ).bind fun d => .ret (.rt d) := rfl
theorem tIf_e {t : SB} {r q : ST} : DL.tIf t r q Δ = (t Δ).bind fun c => if c = true then r Δ else q Δ := rfl
theorem tSet_e {s : List Sl → Pg Sl} : tSet i s Δ = (s Δ).bind fun sl => .ret (.nx (Δ.set i sl)) := rfl
theorem oV_e {s : SE} : oV s Δ = (s Δ).bind fun d => .ret (.v d) := rfl
theorem oL_e {s : SA} : oL s Δ = (s Δ).bind fun ds => .ret (.o (.lst ds)) := rfl
theorem xE_e {s : SE} : xE s Δ = (s Δ).bind fun d => .ret (d, Δ) := rfl
theorem tX_e {s : SX} : tX s Δ = (s Δ).bind fun r => .ret (.nx r.2) := rfl
theorem tAsg_e {t : Tg} {s : SX} : DL.tAsg t s Δ = (s Δ).bind fun r => (ofO (tgS t r.1 r.2)).bind fun Δ1 => .ret (.nx Δ1) := rfl
theorem tFor_e {tg : Tg} {it : SA} {body : ST} : DL.tFor tg it body Δ = (it Δ).bind fun ds => forP tg body ds Δ := rfl
theorem tFrz_e {t : ST} : tFrz i t Δ = t (frzS i Δ) := rfl
theorem tPar_e {i j : Nat} {s t : List Sl → Pg Sl} : tPar i j s t Δ = (s Δ).bind fun d => (t Δ).bind fun c => .ret (.nx ((Δ.set i d).set j c)) := rfl
theorem ite_t {γ : Type} {p q : γ} : (if (true : Bool) = true then p else q) = p := rfl
theorem ite_f {γ : Type} {p q : γ} : (if (false : Bool) = true then p else q) = q := rfl
end
def outP : Out → Pg D
  | .nx _ => .ret .non
  | .rt d => .ret d
  | _ => .fail
theorem outP_rt {d : D} : outP (.rt d) = .ret d := rfl
theorem outP_nx {Δ : List Sl} : outP (.nx Δ) = .ret .non := rfl
theorem runF_at {fl : List Bool} {np N : Nat} {t : ST} {ds : List D} (Δ : List Sl) (h : ds.length = np) (hΔ : startS fl N ds = Δ) : runF fl np N t ds = (t Δ).bind outP := by
  subst hΔ
  exact if_pos h
theorem bind_assoc {α β δ : Type} (f : α → Pg β) (g : β → Pg δ) : ∀ p : Pg α, (p.bind f).bind g = p.bind fun a => (f a).bind g
  | .ret a => rfl
  | .fail => rfl
  | .exn _ => rfl
  | .draw low k => by
    show Pg.draw low _ = Pg.draw low _
    congr 1
    funext d
    exact bind_assoc f g (k d)
/-- a comprehension whose parts are plain -/
theorem lcP_plain {α : Type} {tg : Tg} {t : SB} {el : SE} {Δ : List Sl} (enc : α → D) (p : α → Bool) (f : α → D) : ∀ (xs : List α), (∀ x ∈ xs, ∃ Δ1, tgS tg (enc x) Δ = some Δ1 ∧ t Δ1 = .ret (p x) ∧ (p x = true → el Δ1 = .ret (f x))) → lcP tg t el Δ (xs.map enc) = .ret ((xs.filter p).map f)
  | [], _ => rfl
  | x :: xs, h => by
    obtain ⟨Δ1, h1, h2, h3⟩ := h x (List.mem_cons_self ..)
    have ih := lcP_plain enc p f xs fun y hy => h y (List.mem_cons_of_mem _ hy)
    show ((ofO (tgS tg (enc x) Δ)).bind fun Δ1 => (t Δ1).bind fun c => if c = true then (el Δ1).bind fun r => (lcP tg t el Δ (xs.map enc)).bind fun rs => .ret (r :: rs) else lcP tg t el Δ (xs.map enc)) = _
    rw [h1]
    show ((t Δ1).bind _) = _
    rw [h2]
    cases hp : p x with
    | true =>
      show ((el Δ1).bind _) = _
      rw [h3 hp, ih, List.filter_cons_of_pos hp]
      rfl
    | false =>
      show lcP tg t el Δ (xs.map enc) = _
      rw [ih, List.filter_cons_of_neg (by rw [hp]; decide)]
theorem inR_nat {n : Nat} (h : n ≤ 1000000000) : inR (n : Int) = true := by
  exact Nat.ble_eq_true_of_le (by show n ≤ _; omega)
/-! ### what is drawn: at most c draws, then k -/
def Co {α : Type} (b : Bool) (c : Nat) (p : Pg α) (k : α → Prop) : Prop := ∀ n, wpB b (n + c) p fun a m => n ≤ m ∧ k a
section
variable {α β : Type} {b : Bool} {c c2 : Nat} {p : Pg α} {k k2 : α → Prop}
theorem Co.ret {a : α} (h : k a) : Co b c (.ret a) k := fun n => ⟨Nat.le_add_right _ _, h⟩
theorem Co.mono (h : Co b c p k) (hk : ∀ a, k a → k2 a) : Co b c p k2 := fun n => (h n).mono fun a m ⟨h1, h2⟩ => ⟨h1, hk a h2⟩
theorem Co.le (h : Co b c p k) (l : c ≤ c2) : Co b c2 p k := fun n => by
  have q := h (n + (c2 - c))
  rw [show n + (c2 - c) + c = n + c2 by omega] at q
  exact q.mono fun a m ⟨h1, h2⟩ => ⟨by omega, h2⟩
theorem Co.bind {f : α → Pg β} {kb : β → Prop} (h : Co b c p fun a => Co b c2 (f a) kb) : Co b (c + c2) (p.bind f) kb := fun n => wpB_bind.2 (by
  have q := h (n + c2)
  rw [show n + c2 + c = n + (c + c2) by omega] at q
  refine q.mono fun a m ⟨h1, h2⟩ => ?_
  have q2 := h2 (m - c2)
  rw [show m - c2 + c2 = m by omega] at q2
  exact q2.mono fun a m2 ⟨h3, h4⟩ => ⟨by omega, h4⟩)
theorem Co.draw {low : Int} {f : Int → Pg α} (h0 : 0 < low) (h1 : low < 2 ^ 200) (h : ∀ d, 0 ≤ d → d < low → Co true c (f d) k) : Co true (c + 1) (.draw low f) k := fun n => ⟨rfl, h0, h1, n + c, by omega, fun d d0 d1 => h d d0 d1 n⟩
theorem Co.wp {n : Nat} (h : Co b c p k) (l : c ≤ n) : wpB b n p fun a _ => k a := by
  have q := h (n - c)
  rw [show n - c + c = n by omega] at q
  exact q.mono fun a m z => z.2
/-- a loop -/
theorem co_for {tg : Tg} {body : ST} {I : Nat → List Sl → Prop} {ds : List D} (c : Nat) : ∀ (i : Nat) (Δ : List Sl), (∀ j d Δ, ds[j]? = some d → I j Δ → Co b c ((ofO (tgS tg d Δ)).bind body) fun o => ∃ Δ', (o = .nx Δ' ∨ o = .ct Δ') ∧ I (j + 1) Δ') → I i Δ → i ≤ ds.length →
    Co b ((ds.length - i) * c) (forP tg body (ds.drop i) Δ) fun o => ∃ Δ', o = .nx Δ' ∧ I ds.length Δ' := fun i Δ h => by
  generalize hm : ds.length - i = m
  induction m generalizing i Δ with
  | zero =>
    intro hI hi
    have e : i = ds.length := by omega
    subst e
    rw [List.drop_length]
    exact Co.ret ⟨Δ, rfl, hI⟩
  | succ m ih =>
    intro hI hi
    have hlt : i < ds.length := by omega
    rw [List.drop_eq_getElem_cons hlt]
    have e1 : forP tg body (ds[i] :: ds.drop (i + 1)) Δ = (((ofO (tgS tg ds[i] Δ)).bind body).bind fun o => match o with
      | .nx Δ2 => forP tg body (ds.drop (i + 1)) Δ2
      | .ct Δ2 => forP tg body (ds.drop (i + 1)) Δ2
      | .bk Δ2 => .ret (.nx Δ2)
      | .rt d => .ret (.rt d)) := by rw [bind_assoc]; rfl
    rw [e1, Nat.succ_mul, Nat.add_comm]
    refine Co.bind ((h i ds[i] Δ (List.getElem?_eq_getElem hlt) hI).mono fun o ⟨Δ', ho, hI'⟩ => ?_)
    rcases ho with rfl | rfl
    · exact ih (i + 1) Δ' (by omega) hI' (by omega)
    · exact ih (i + 1) Δ' (by omega) hI' (by omega)
end
end DL
end
section
set_option Elab.async false
set_option linter.all false
set_option maxRecDepth 100000
/-! TY: typed readings of the programs -/
namespace DL
open PySem L2
@[reducible] def eI : Int → D := D.int
@[reducible] def eB : Bool → D := D.bl
@[reducible] def eS : Str → D := D.str
@[reducible] def eD : D → D := fun d => d
@[reducible] def eU : Unit → D := fun _ => .cell 0
def eL {α : Type} (f : α → D) (xs : List α) : D := .lst (xs.map f)
def eT {α : Type} (f : α → D) (xs : List α) : D := .tup (xs.map f)
def e2 {α β : Type} (f : α → D) (g : β → D) (p : α × β) : D := .tup [f p.1, g p.2]
def e3 {α β γ : Type} (f : α → D) (g : β → D) (h : γ → D) (p : α × β × γ) : D := .tup [f p.1, g p.2.1, h p.2.2]
def eO {α : Type} (f : α → D) : Option α → D
  | none => .non
  | some a => f a
section
variable {Δ : List Sl} {s t r : SE} {i j : Nat} {d e c : D} {ds es : List D} {A : SA} {T U : SB} {α β δ : Type} {f : α → D} {g : β → D} {xs ys : List α}
theorem q_var (h : Δ[i]? = some (.v d)) : cVar i Δ = .ret d := by unfold cVar; rw [h]
theorem q_vw (h : Δ[i]? = some (.v d)) : cVw i Δ = .ret d := by unfold cVw; rw [h]
theorem q_voL (h : Δ[i]? = some (.o (.lst (xs.map f)))) : cVw i Δ = .ret (eL f xs) := by unfold cVw; rw [h]; rfl
theorem q_vww (h : Δ[i]? = some (.w d)) : cVw i Δ = .ret d := by unfold cVw; rw [h]
theorem q_C : cC d Δ = .ret d := rfl
theorem q_1 {o : D → Option D} (hs : s Δ = .ret d) (hg : o d = some e) : c1 o s Δ = .ret e := by
  show (s Δ).bind _ = _
  rw [hs, bind_ret, hg]
  rfl
theorem q_2 {o : D → D → Option D} (hs : s Δ = .ret d) (ht : t Δ = .ret e) (hg : o d e = some c) : c2 o s t Δ = .ret c := by
  show (s Δ).bind _ = _
  rw [hs, bind_ret, ht, bind_ret, hg]
  rfl
theorem q_aN : aN Δ = .ret [] := rfl
theorem q_aC (hs : s Δ = .ret d) (ht : A Δ = .ret ds) : aC s A Δ = .ret (d :: ds) := by
  show (s Δ).bind _ = _
  rw [hs, bind_ret, ht]
  rfl
theorem q_call {F : List D → Pg D} (ha : A Δ = .ret ds) (hF : F ds = .ret d) : cCall F A Δ = .ret d := by
  show (A Δ).bind F = _
  rw [ha]; exact hF
theorem q_tup (ha : A Δ = .ret ds) (hl : ds.length ≤ lim := by exact Nat.le_of_ble_eq_true rfl) : cTup A Δ = .ret (.tup ds) := by
  show (A Δ).bind _ = _
  rw [ha, bind_ret, if_pos hl]
theorem q_aL (ha : A Δ = .ret ds) (hl : ds.length ≤ lim := by exact Nat.le_of_ble_eq_true rfl) : aL A Δ = .ret ds := by
  show (A Δ).bind _ = _
  rw [ha, bind_ret, if_pos hl]
theorem q_cL (ha : A Δ = .ret ds) : cL A Δ = .ret (.lst ds) := by
  show (A Δ).bind _ = _
  rw [ha]; rfl
theorem q_cLL (ha : A Δ = .ret (xs.map f)) : cL A Δ = .ret (eL f xs) := q_cL ha
/-! tests -/
theorem q_tB {b : Bool} (hs : s Δ = .ret (.bl b)) : tB s Δ = .ret b := by
  show (s Δ).bind _ = _
  rw [hs]; rfl
theorem q_tT {b : Bool} (hs : s Δ = .ret d) (h : truO d = some b) : tT s Δ = .ret b := by
  show (s Δ).bind _ = _
  rw [hs, bind_ret, h]; rfl
theorem q_tNot {b : Bool} (hs : T Δ = .ret b) : tNot T Δ = .ret (!b) := by
  show (T Δ).bind _ = _
  rw [hs]; rfl
theorem q_tAnd {b c : Bool} (hs : T Δ = .ret b) (ht : b = true → U Δ = .ret c) : tAnd T U Δ = .ret (b && c) := by
  show (T Δ).bind _ = _
  rw [hs, bind_ret]
  cases b with
  | true => exact ht rfl
  | false => rfl
theorem q_tOr {b c : Bool} (hs : T Δ = .ret b) (ht : b = false → U Δ = .ret c) : tOr T U Δ = .ret (b || c) := by
  show (T Δ).bind _ = _
  rw [hs, bind_ret]
  cases b with
  | true => rfl
  | false => exact ht rfl
theorem q_eAnd {b c : Bool} (hs : s Δ = .ret (.bl b)) (ht : b = true → t Δ = .ret (.bl c)) : eAnd s t Δ = .ret (.bl (b && c)) := by
  show (s Δ).bind _ = _
  rw [hs]
  cases b with
  | true => exact ht rfl
  | false => rfl
theorem q_cIf {b : Bool} {x y : α} (ht : T Δ = .ret b) (hs : b = true → s Δ = .ret (f x)) (hr : b = false → t Δ = .ret (f y)) : cIf T s t Δ = .ret (f (if b = true then x else y)) := by
  show (T Δ).bind _ = _
  rw [ht, bind_ret]
  cases b with
  | true => exact hs rfl
  | false => exact hr rfl
/-! what the operators make of typed things -/
theorem o_addI {a b : Int} : addO (.int a) (.int b) = some (.int (a + b)) := rfl
theorem o_subI {a b : Int} : subO (.int a) (.int b) = some (.int (a - b)) := rfl
theorem o_addS {a b : Str} (h : a.length + b.length ≤ lim) : addO (.str a) (.str b) = some (.str (a ++ b)) := if_pos h
theorem o_ltI {a b : Int} : coO .Lt (.int a) (.int b) = some (.bl (decide (a < b))) := rfl
theorem o_leI {a b : Int} : coO .LtE (.int a) (.int b) = some (.bl (decide (a ≤ b))) := rfl
theorem o_eqI {a b : Int} : eqO false (.int a) (.int b) = some (.bl (decide (a = b))) := rfl
theorem o_eqS {a b : Str} : eqO false (.str a) (.str b) = some (.bl (decide (a = b))) := rfl
theorem o_neS {a b : Str} : eqO true (.str a) (.str b) = some (.bl (!decide (a = b))) := rfl
theorem o_lenL : lenO' (eL f xs) = some (.int (xs.length : Nat)) := by
  show some (D.int ((xs.map f).length : Nat)) = _
  rw [List.length_map]
theorem o_lenT : lenO' (eT f xs) = some (.int (xs.length : Nat)) := by
  show some (D.int ((xs.map f).length : Nat)) = _
  rw [List.length_map]
theorem o_lenS {z : Str} (h : z.length ≤ lim) : lenO' (.str z) = some (.int (z.length : Nat)) := if_pos h
theorem o_tupL : tupO (eL f xs) = some (eT f xs) := rfl
theorem o_truB {b : Bool} : truO (.bl b) = some b := rfl
theorem o_all {ns : List Bool} : allO (eL D.bl ns) = some (.bl (ns.all id)) := by
  show ((unB (ns.map D.bl)).map _) = _
  rw [unB_map]; rfl
/-! items, slices -/
theorem atI_map {i : Int} : atI (xs.map f) i = (atI xs i).map f := by
  unfold atI
  rw [List.length_map]
  cases ixN xs.length i with
  | none => rfl
  | some j => simp
theorem o_ixL {i : Int} {x : α} (h : atI xs i = some x) : ixO (eL f xs) (.int i) = some (f x) := by
  show atI (xs.map f) i = _
  rw [atI_map, h]; rfl
theorem o_ixT {i : Int} {x : α} (h : atI xs i = some x) : ixO (eT f xs) (.int i) = some (f x) := by
  show atI (xs.map f) i = _
  rw [atI_map, h]; rfl
def ixD [Inhabited α] (xs : List α) (i : Int) : α := (atI xs i).getD default
theorem ixD_some [Inhabited α] {i : Int} (h : (atI xs i).isSome = true) : atI xs i = some (ixD xs i) := by
  unfold ixD
  cases q : atI xs i with
  | none => rw [q] at h; cases h
  | some x => rfl
theorem o_ixLD [Inhabited α] {i : Int} (h : (atI xs i).isSome = true) : ixO (eL f xs) (.int i) = some (f (ixD xs i)) := o_ixL (ixD_some h)
theorem o_ixTD [Inhabited α] {i : Int} (h : (atI xs i).isSome = true) : ixO (eT f xs) (.int i) = some (f (ixD xs i)) := o_ixT (ixD_some h)
def cutL (xs : List α) (lo hi : Option Int) : List α := (xs.drop (HT.sIx xs.length 0 lo)).take (HT.sIx xs.length xs.length hi - HT.sIx xs.length 0 lo)
theorem cut_map {lo hi : Option Int} : cutD (xs.map f) lo hi = (cutL xs lo hi).map f := by
  unfold cutD cutL
  rw [List.length_map, List.map_take, List.map_drop]
theorem o_slL {lo hi : Option Int} : slO (eL f xs) lo hi = some (eL f (cutL xs lo hi)) := by
  show some (D.lst (cutD (xs.map f) lo hi)) = _
  rw [cut_map]; rfl
theorem o_slT {lo hi : Option Int} : slO (eT f xs) lo hi = some (eT f (cutL xs lo hi)) := by
  show some (D.tup (cutD (xs.map f) lo hi)) = _
  rw [cut_map]; rfl
theorem q_sl {x y : Int} (h1 : s Δ = .ret d) (h2 : t Δ = .ret (.int x)) (h3 : r Δ = .ret (.int y)) (h : slO d (some x) (some y) = some e) : cSl s t r Δ = .ret e := by
  show (s Δ).bind _ = _
  rw [h1, bind_ret, h2, bind_ret]
  show (r Δ).bind _ = _
  rw [h3, bind_ret]
  show ofO (slO d (some x) (some y)) = _
  rw [h]; rfl
/-! iterables: the list of the items -/
theorem q_itL (hs : s Δ = .ret (eL f xs)) : aIt s Δ = .ret (xs.map f) := by
  show (s Δ).bind _ = _
  rw [hs]; rfl
theorem q_itT (hs : s Δ = .ret (eT f xs)) : aIt s Δ = .ret (xs.map f) := by
  show (s Δ).bind _ = _
  rw [hs]; rfl
def chrS (z : Str) : List Str := z.cps.toList.map fun c => ⟨#[c]⟩
theorem q_itS {z : Str} (hs : s Δ = .ret (.str z)) : aIt s Δ = .ret ((chrS z).map D.str) := by
  show (s Δ).bind _ = _
  rw [hs]
  show Pg.ret (signs z) = _
  unfold signs chrS
  rw [List.map_map]; rfl
def enumL (xs : List α) : List (Int × α) := xs.zipIdx.map fun q => ((q.2 : Nat), q.1)
def rngI (lo : Int) (n : Nat) : List Int := (List.range n).map fun i => lo + (i : Nat)
theorem rngD_is (lo : Int) (n : Nat) : rngD lo n = (rngI lo n).map D.int := by
  unfold rngD rngI
  rw [List.map_map]; rfl
theorem q_rg1 {n : Int} (hs : s Δ = .ret (.int n)) (h : inR n = true) : aRg1 s Δ = .ret ((rngI 0 n.toNat).map D.int) := by
  show (s Δ).bind _ = _
  rw [hs, bind_ret]
  show ofO (if inR n = true then some (rngD 0 n.toNat) else none) = _
  rw [if_pos h, rngD_is]; rfl
theorem q_listL (hs : s Δ = .ret (eL f xs)) : aList s Δ = .ret (xs.map f) := by
  show (s Δ).bind _ = _
  rw [hs]; rfl
/-! comprehensions -/
theorem q_lc {tg : Tg} {vs : List Nat} {p : α → Bool} {v : α → β} (hi : A Δ = .ret (xs.map f)) (hl : xs.length ≤ lim) (h : ∀ x ∈ xs, ∃ Δ1, tgS tg (f x) (wipeS Δ vs) = some Δ1 ∧ T Δ1 = .ret (p x) ∧ (p x = true → s Δ1 = .ret (g (v x)))) : aLc tg vs A T s Δ = .ret (((xs.filter p).map v).map g) := by
  show (A Δ).bind _ = _
  rw [hi, bind_ret, if_pos (by rw [List.length_map]; exact hl), List.map_map]
  exact lcP_plain f p (fun x => g (v x)) xs h
theorem q_lc0 {tg : Tg} {vs : List Nat} {v : α → β} (hi : A Δ = .ret (xs.map f)) (hl : xs.length ≤ lim) (h : ∀ x ∈ xs, ∃ Δ1, tgS tg (f x) (wipeS Δ vs) = some Δ1 ∧ s Δ1 = .ret (g (v x))) : aLc tg vs A DL.tYes s Δ = .ret ((xs.map v).map g) := by
  have q := q_lc (tg := tg) (vs := vs) (T := DL.tYes) (s := s) (p := fun _ => true) (v := v) (g := g) hi hl fun x hx => by
    obtain ⟨Δ1, h1, h2⟩ := h x hx
    exact ⟨Δ1, h1, rfl, fun _ => h2⟩
  rw [List.filter_eq_self.mpr (fun _ _ => rfl)] at q
  exact q
/-! dicts -/
def kget (m : List (Str × α)) (k : Str) : Option α := match m with
  | [] => none
  | p :: m => if p.1 = k then some p.2 else kget m k
theorem valD_map {k : Str} : ∀ m : List (Str × α), valD (m.map fun p => Sum.inr p.1) (m.map fun p => f p.2) (.inr k) = (kget m k).map f
  | [] => rfl
  | p :: m => by
    unfold kget
    rw [List.map_cons, List.map_cons]
    unfold valD
    by_cases h : p.1 = k
    · rw [if_pos (by rw [h]), if_pos h]; rfl
    · rw [if_neg (fun z => h (by cases z; rfl)), if_neg h]; exact valD_map m
/-! statements -/
theorem z_seq {S1 S2 : ST} {Δ1 : List Sl} {o : Pg Out} (h1 : S1 Δ = .ret (.nx Δ1)) (h2 : S2 Δ1 = o) : DL.tSeq S1 S2 Δ = o := by
  show (S1 Δ).bind _ = _
  rw [h1]; exact h2
theorem z_seqr {S1 S2 : ST} (h1 : S1 Δ = .ret (.rt d)) : DL.tSeq S1 S2 Δ = .ret (.rt d) := by
  show (S1 Δ).bind _ = _
  rw [h1]; rfl
theorem z_nil : DL.tNil Δ = .ret (.nx Δ) := rfl
theorem z_ret (hs : s Δ = .ret d) : DL.tRet s Δ = .ret (.rt d) := by
  show (s Δ).bind _ = _
  rw [hs]; rfl
theorem z_retO (h : Δ[i]? = some (.o (.lst ds))) : tRetO i Δ = .ret (.rt (.lst ds)) := by unfold tRetO; rw [h]; rfl
theorem z_app {Δ1 : List Sl} (h : ownL Δ i = some ds) (hs : s Δ = .ret d) (hl : ds.length < lim) (h1 : Δ.set i (.o (.lst (ds ++ [d]))) = Δ1 := by rfl) : tX (xApp i (xE s)) Δ = .ret (.nx Δ1) := by
  subst h1
  show (((ofO (ownL Δ i)).bind fun _ => ((s Δ).bind fun d => .ret (d, Δ)).bind fun r => (ofO (ownL r.2 i)).bind fun ds => if ds.length < lim then Pg.ret (D.non, r.2.set i (.o (.lst (ds ++ [r.1])))) else .fail).bind _) = _
  rw [h, ofO_some, bind_ret, hs, bind_ret, bind_ret]
  show (((ofO (ownL Δ i)).bind _).bind _) = _
  rw [h, ofO_some, bind_ret, if_pos hl]; rfl
theorem z_frz {S : ST} {o : Pg Out} {Δ1 : List Sl} (h : frzS i Δ = Δ1) (hs : S Δ1 = o) : tFrz i S Δ = o := by
  subst h; exact hs
theorem z_forS {tg : Tg} {body : ST} {Δ1 : List Sl} (hi : A Δ = .ret ds) (h : forP tg body ds Δ = .ret (.nx Δ1)) : DL.tFor tg A body Δ = .ret (.nx Δ1) := by
  show (A Δ).bind _ = _
  rw [hi]; exact h
end
end DL
end
section
set_option Elab.async false
set_option linter.all false
set_option maxRecDepth 100000
namespace DL
open PySem L2
section
variable {Δ : List Sl} {s t r : SE} {i j : Nat} {d e c : D} {ds es : List D} {A : SA} {T U : SB} {α β δ : Type} {f : α → D} {g : β → D} {xs ys : List α}
theorem cut_take {n : Nat} : cutL xs none (some (n : Int)) = xs.take n := by
  unfold cutL
  have e1 : HT.sIx xs.length 0 none = 0 := rfl
  have e2 : HT.sIx xs.length xs.length (some (n : Int)) = min n xs.length := by
    unfold HT.sIx
    simp
    omega
  rw [e1, e2, List.drop_zero, Nat.sub_zero]
  by_cases h : n ≤ xs.length
  · rw [Nat.min_eq_left h]
  · rw [Nat.min_eq_right (by omega), List.take_length, List.take_of_length_le (by omega)]
theorem cut_drop {n : Nat} : cutL xs (some (n : Int)) none = xs.drop n := by
  unfold cutL
  have e1 : HT.sIx xs.length xs.length none = xs.length := rfl
  have e2 : HT.sIx xs.length 0 (some (n : Int)) = min n xs.length := by
    unfold HT.sIx
    simp
    omega
  rw [e1, e2]
  by_cases h : n ≤ xs.length
  · rw [Nat.min_eq_left h, List.take_of_length_le (by rw [List.length_drop]; omega)]
  · rw [Nat.min_eq_right (by omega), Nat.sub_self, List.take_zero, List.drop_of_length_le (by omega)]
theorem o_cutDropT {n : Nat} : sl10 (eT f xs) (.int (n : Nat)) = some (eT f (xs.drop n)) := by rw [← cut_drop]; exact o_slT
theorem q_prop {c : Nat} {F : List D → Pg D} (hs : s Δ = .ret d) (hc : isC c d = true) (hF : F [d] = .ret e) : cProp c F s Δ = .ret e := by
  show (s Δ).bind _ = _
  rw [hs, bind_ret, if_pos hc]; exact hF
theorem o_v (hs : s Δ = .ret d) : oV s Δ = .ret (.v d) := by
  show (s Δ).bind _ = _
  rw [hs]; rfl
theorem o_l (hs : A Δ = .ret ds) : oL A Δ = .ret (.o (.lst ds)) := by
  show (A Δ).bind _ = _
  rw [hs]; rfl
theorem z_par2 {a b : List Sl → Pg Sl} {x y : Sl} {Δ1 : List Sl} (h1 : a Δ = .ret x) (h2 : b Δ = .ret y) (h : (Δ.set i x).set j y = Δ1 := by rfl) : tPar i j a b Δ = .ret (.nx Δ1) := by
  show (a Δ).bind _ = _
  rw [h1, bind_ret, h2, bind_ret, h]
theorem z_par3 {k : Nat} {a b c : List Sl → Pg Sl} {x y z : Sl} {Δ1 : List Sl} (h1 : a Δ = .ret x) (h2 : b Δ = .ret y) (h3 : c Δ = .ret z) (h : ((Δ.set i x).set j y).set k z = Δ1 := by rfl) : tPar3 i j k a b c Δ = .ret (.nx Δ1) := by
  show (a Δ).bind _ = _
  rw [h1, bind_ret, h2, bind_ret, h3, bind_ret, h]
theorem z_appL {x : α} {Δ1 : List Sl} (h : ownL Δ i = some (xs.map f)) (hs : s Δ = .ret (f x)) (hl : xs.length < lim) (h1 : Δ.set i (.o (.lst ((xs ++ [x]).map f))) = Δ1 := by rfl) : tX (xApp i (xE s)) Δ = .ret (.nx Δ1) := by
  refine z_app h hs (by rw [List.length_map]; exact hl) ?_
  rw [← h1, List.map_append]; rfl
end
/-! equality of typed things -/
structure EqE {α : Type} [DecidableEq α] (f : α → D) (n : Nat) (S : α → Prop) : Prop where
  py : ∀ a, ∃ p, toPy (f a) = some p ∧ p.depth ≤ n ∧ (S a → p.canLay0 = true)
  eqv : ∀ a b p q, toPy (f a) = some p → toPy (f b) = some q → PyData.eqv p q = decide (a = b)
  o : ∀ neg a b, eqO neg (f a) (f b) = eqQ neg (f a) (f b) ∨ eqO neg (f a) (f b) = some (.bl (if neg then !decide (a = b) else decide (a = b)))
section
variable {α β γ : Type} [DecidableEq α] [DecidableEq β] [DecidableEq γ] {f : α → D} {g : β → D} {k : γ → D} {n m l : Nat} {S : α → Prop} {R : β → Prop} {Q : γ → Prop}
theorem eqeS : EqE D.str 0 (fun z => PySem.PyData.strOk z = true) where
  py := fun a => ⟨.str a, rfl, Nat.le_refl _, fun h => by unfold PyData.canLay0; exact h⟩
  eqv := fun a b p q hp hq => by
    cases hp; cases hq; unfold PyData.eqv
    by_cases h : a = b <;> simp [h]
  o := fun neg a b => .inr rfl
end
end DL
namespace DL
theorem z_setO {Δ : List Sl} {i : Nat} {a : List Sl → Pg Sl} {x : Sl} {Δ1 : List Sl} (h1 : a Δ = .ret x) (h : Δ.set i x = Δ1 := by rfl) : tSet i a Δ = .ret (.nx Δ1) := by
  show (a Δ).bind _ = _
  rw [h1, bind_ret, h]
end DL
namespace DL
end DL
end
section
set_option Elab.async false
set_option linter.all false
set_option maxRecDepth 100000
/-! typed readings of programs that draw -/
namespace DL
open PySem L2
structure Ref {α : Type} (p q : Pg α) : Prop where
  go : ∀ n k, wpB true n p k → wpB true n q k
open Classical in
noncomputable def asr {α : Type} (c : Prop) (p : Pg α) : Pg α := if c then p else .fail
def loopM {α σ τ : Type} (step : σ → α → Pg (σ ⊕ τ)) : List α → σ → Pg (σ ⊕ τ)
  | [], z => .ret (.inl z)
  | x :: xs, z => (step z x).bind fun r => match r with
    | .inl z => loopM step xs z
    | .inr t => .ret (.inr t)
section
variable {α β σ τ ω ρ : Type} {Δ : List Sl} {s t r : SE} {i j : Nat} {d e : D} {ds es : List D} {A : SA} {T U : SB} {f : α → D} {g : β → D} {xs ys : List α} {p q : Pg ρ} {X : Pg τ} {R : τ → Pg ρ}
theorem Ref.refl : Ref p p := ⟨fun _ _ h => h⟩
theorem Ref.trans {p q r : Pg ρ} (h : Ref p q) (h' : Ref q r) : Ref p r := ⟨fun n k w => h'.go n k (h.go n k w)⟩
theorem Ref.bind {p q : Pg α} {f g : α → Pg β} (h : Ref p q) (hf : ∀ a, Ref (f a) (g a)) : Ref (p.bind f) (q.bind g) := ⟨fun n k w => wpB_bind.2 ((h.go n _ (wpB_bind.1 w)).mono fun a m w => (hf a).go m k w)⟩
theorem bind_pure : ∀ p : Pg α, p.bind .ret = p
  | .ret a => rfl
  | .fail => rfl
  | .exn _ => rfl
  | .draw l f => by
    show Pg.draw l _ = _
    congr 1
    funext d
    exact bind_pure (f d)
theorem m_end {v : τ} {q : Pg ρ} (h : Ref (R v) q) : Ref ((Pg.ret v).bind R) q := h
theorem m_asr {c : Prop} (h : c → Ref (X.bind R) q) : Ref ((asr c X).bind R) q := ⟨fun n k w => by
  unfold asr at w
  split at w
  · rename_i hc; exact (h hc).go n k w
  · exact w.elim⟩
theorem m_pure {y : Pg ρ} {s : List Sl → Pg ω} {d : ω} {G : ω → Pg ρ} (h : s Δ = .ret d) (hg : Ref y (G d)) : Ref y ((s Δ).bind G) := by
  rw [h]; exact hg
theorem m_mon {m : Pg α} {s : List Sl → Pg ω} {f : α → ω} {K : α → Pg τ} {G : ω → Pg ρ} (h : Ref (m.bind fun a => .ret (f a)) (s Δ)) (hk : ∀ b, Ref ((K b).bind R) (G (f b))) : Ref ((m.bind K).bind R) ((s Δ).bind G) := by
  have e : (m.bind K).bind R = m.bind fun a => (K a).bind R := bind_assoc _ _ _
  rw [e]
  refine Ref.trans ?_ (Ref.bind h (fun _ => Ref.refl))
  rw [bind_assoc]
  exact Ref.bind Ref.refl hk
theorem m_app {m : Pg α} {p : Pg ω} {f : α → ω} {K : α → Pg τ} {G : ω → Pg ρ} (h : Ref (m.bind fun a => .ret (f a)) p) (hk : ∀ b, Ref ((K b).bind R) (G (f b))) : Ref ((m.bind K).bind R) (p.bind G) := m_mon (Δ := []) (s := fun _ => p) h hk
theorem m_sub {y : Pg ρ} {C : (List Sl → Pg ω) → List Sl → Pg τ} {s : List Sl → Pg ω} {G : τ → Pg ρ} (hC : C s Δ = (s Δ).bind fun d => C (fun _ => .ret d) Δ) (h : Ref y ((s Δ).bind fun d => (C (fun _ => .ret d) Δ).bind G)) : Ref y ((C s Δ).bind G) := by
  rw [hC, bind_assoc]; exact h
theorem m_aN {y : Pg ρ} {G : List D → Pg ρ} (h : Ref y (G [])) : Ref y ((aN Δ).bind G) := h
theorem m_aC {y : Pg ρ} {G : List D → Pg ρ} (h : Ref y ((s Δ).bind fun d => (A Δ).bind fun ds => G (d :: ds))) : Ref y ((aC s A Δ).bind G) := by
  have e : (aC s A Δ).bind G = (s Δ).bind fun d => (A Δ).bind fun ds => G (d :: ds) := by
    show ((s Δ).bind fun d => (A Δ).bind fun ds => .ret (d :: ds)).bind G = _
    rw [bind_assoc]
    congr 1
    funext d
    rw [bind_assoc]
    rfl
  rw [e]; exact h
theorem m_reify {m : Pg τ} {p : Pg ρ} (h : Ref (m.bind R) (p.bind .ret)) : Ref (m.bind R) p := by rw [bind_pure] at h; exact h
theorem m_ite {c : Bool} {X1 X2 : Pg τ} {q1 q2 : Pg ρ} (h1 : c = true → Ref (X1.bind R) q1) (h2 : c = false → Ref (X2.bind R) q2) : Ref ((if c = true then X1 else X2).bind R) (if c = true then q1 else q2) := by
  cases c with
  | true => exact h1 rfl
  | false => exact h2 rfl
theorem m_orK {c : Bool} {m : Pg Bool} {b : Pg Bool} {K : Bool → Pg τ} {G : Bool → Pg ρ} (h : c = false → Ref (m.bind fun z => .ret z) b) (hk : ∀ z, Ref ((K z).bind R) (G z)) : Ref (((if c = true then .ret true else m).bind K).bind R) ((if c = true then .ret true else b).bind G) := by
  cases c with
  | true => exact hk true
  | false => exact m_app (f := fun z => z) (h rfl) hk
theorem m_ifK {c : Bool} {m1 m2 : Pg α} {a b : Pg ω} {f : α → ω} {K : α → Pg τ} {G : ω → Pg ρ} (h1 : c = true → Ref (m1.bind fun z => .ret (f z)) a) (h2 : c = false → Ref (m2.bind fun z => .ret (f z)) b) (hk : ∀ z, Ref ((K z).bind R) (G (f z))) : Ref (((if c = true then m1 else m2).bind K).bind R) ((if c = true then a else b).bind G) := by
  cases c with
  | true => exact m_app (h1 rfl) hk
  | false => exact m_app (h2 rfl) hk
/-! comprehensions -/
/-! draws -/
noncomputable def drawI (_ : Unit) (low : Int) : Pg Int := asr (lowOk low = true) (.draw low .ret)
theorem r_take (u : Unit) (low : Int) : Ref ((drawI u low).bind fun a => .ret (eI a)) (takeP [eU u, eI low]) := m_asr fun h => by
  show Ref ((Pg.draw low Pg.ret).bind fun a => Pg.ret (D.int a)) (if lowOk low = true then Pg.draw low (fun d => Pg.ret (D.int d)) else Pg.fail)
  rw [if_pos h]
  exact Ref.refl
/-! statements -/
theorem m_run {fl : List Bool} {np N : Nat} {S : ST} {X : Pg τ} {F : τ → D} {ds : List D} (Δ : List Sl) (hn : ds.length = np) (hΔ : startS fl N ds = Δ) (h : Ref (X.bind fun a => .ret (.rt (F a))) (S Δ)) : Ref (X.bind fun a => .ret (F a)) (runF fl np N S ds) := by
  rw [runF_at Δ hn hΔ]
  have e : (X.bind fun a => Pg.ret (F a)) = (X.bind fun a => Pg.ret (Out.rt (F a))).bind outP := by rw [bind_assoc]; rfl
  rw [e]
  exact Ref.bind h fun _ => Ref.refl
/-- what stands behind in a row -/
def goOn0 (S : ST) : Out → Pg Out
  | .nx Δ => S Δ
  | o => .ret o
@[irreducible] def goOn (S : ST) : Out → Pg Out := goOn0 S
theorem goOn_eq {S : ST} : goOn S = goOn0 S := by unfold goOn; rfl
theorem m_seqG {y : Pg ρ} {S1 S2 : ST} {G : Out → Pg ρ} (h : Ref y ((S1 Δ).bind fun o => (goOn S2 o).bind G)) : Ref y ((DL.tSeq S1 S2 Δ).bind G) := by
  have e : DL.tSeq S1 S2 Δ = (S1 Δ).bind (goOn S2) := by
    rw [goOn_eq]
    show (S1 Δ).bind _ = _
    congr 1
  rw [e, bind_assoc]; exact h
theorem m_set {y : Pg ρ} {G : Out → Pg ρ} (h : Ref y ((s Δ).bind fun d => G (.nx (Δ.set i (.v d))))) : Ref y ((tSet i (oV s) Δ).bind G) := by
  have e : (tSet i (oV s) Δ).bind G = (s Δ).bind fun d => G (.nx (Δ.set i (.v d))) := by
    show (((s Δ).bind fun d => .ret (.v d)).bind fun sl => .ret (.nx (Δ.set i sl))).bind G = _
    rw [bind_assoc, bind_assoc]; rfl
  rw [e]; exact h
theorem m_nxP {y : Pg ρ} {S : ST} {Δ1 : List Sl} {G : Out → Pg ρ} (h : S Δ = .ret (.nx Δ1)) (hg : Ref y (G (.nx Δ1))) : Ref y ((S Δ).bind G) := by
  rw [h]; exact hg
theorem m_xapp {y : Pg ρ} {G : Out → Pg ρ} (ho : ownL Δ i = some ds) (hl : ds.length < lim) (h : Ref y ((s Δ).bind fun d => G (.nx (Δ.set i (.o (.lst (ds ++ [d]))))))) : Ref y ((tX (xApp i (xE s)) Δ).bind G) := by
  have e : (tX (xApp i (xE s)) Δ).bind G = (s Δ).bind fun d => G (.nx (Δ.set i (.o (.lst (ds ++ [d]))))) := by
    show (((ofO (ownL Δ i)).bind fun _ => ((s Δ).bind fun d => Pg.ret (d, Δ)).bind fun r => (ofO (ownL r.2 i)).bind fun ds => if ds.length < lim then Pg.ret (D.non, r.2.set i (.o (.lst (ds ++ [r.1])))) else .fail).bind fun r => .ret (.nx r.2)).bind G = _
    rw [ho, ofO_some, bind_ret, bind_assoc, bind_assoc, bind_assoc]
    congr 1
    funext d
    rw [bind_ret]
    show (((ofO (ownL Δ i)).bind fun ds => if ds.length < lim then Pg.ret (D.non, Δ.set i (Sl.o (MO.lst (ds ++ [d])))) else Pg.fail).bind _) = _
    rw [ho, ofO_some, bind_ret, if_pos hl]
    rfl
  rw [e]; exact h
theorem m_if {y : Pg ρ} {S1 S2 : ST} {G : Out → Pg ρ} (h : Ref y ((T Δ).bind fun c => if c = true then (S1 Δ).bind G else (S2 Δ).bind G)) : Ref y ((DL.tIf T S1 S2 Δ).bind G) := by
  have e : (DL.tIf T S1 S2 Δ).bind G = (T Δ).bind fun c => if c = true then (S1 Δ).bind G else (S2 Δ).bind G := by
    show ((T Δ).bind fun c => if c = true then S1 Δ else S2 Δ).bind G = _
    rw [bind_assoc]
    congr 1
    funext c
    cases c <;> rfl
  rw [e]; exact h
theorem m_retG {y : Pg ρ} {G : Out → Pg ρ} (h : Ref y ((s Δ).bind fun d => G (.rt d))) : Ref y ((DL.tRet s Δ).bind G) := by
  have e : (DL.tRet s Δ).bind G = (s Δ).bind fun d => G (.rt d) := bind_assoc _ _ _
  rw [e]; exact h
theorem m_frz {y : Pg ρ} {S : ST} {Δ1 : List Sl} {G : Out → Pg ρ} (h : frzS i Δ = Δ1) (hs : Ref y ((S Δ1).bind G)) : Ref y ((tFrz i S Δ).bind G) := by
  subst h; exact hs
/-! loops -/
/-- m tells how p ends: on with I, or back with what f makes of it -/
def RefJ (I : σ → List Sl → Prop) (f : α → D) (m : Pg (σ ⊕ α)) (p : Pg Out) : Prop := ∀ (ρ : Type) (R : σ ⊕ α → Pg ρ) (G : Out → Pg ρ), (∀ z Δ, I z Δ → Ref (R (.inl z)) (G (.nx Δ)) ) → (∀ z Δ, I z Δ → Ref (R (.inl z)) (G (.ct Δ)) ) → (∀ a, Ref (R (.inr a)) (G (.rt (f a)))) → Ref (m.bind R) (p.bind G)
theorem loop_ref {γ : Type} {tg : Tg} {body : ST} {e : γ → D} {I : σ → List Sl → Prop} {f : α → D} {step : σ → γ → Pg (σ ⊕ α)} (hb : ∀ z x Δ, I z Δ → RefJ I f (step z x) ((ofO (tgS tg (e x) Δ)).bind body)) : ∀ (xs : List γ) (z : σ) (Δ : List Sl), I z Δ → ∀ (ρ : Type) (R : σ ⊕ α → Pg ρ) (G : Out → Pg ρ), (∀ z Δ, I z Δ → Ref (R (.inl z)) (G (.nx Δ))) → (∀ a, Ref (R (.inr a)) (G (.rt (f a)))) → Ref ((loopM step xs z).bind R) ((forP tg body (xs.map e) Δ).bind G)
  | [], z, Δ, hI, ρ, R, G, h1, h2 => h1 z Δ hI
  | x :: xs, z, Δ, hI, ρ, R, G, h1, h2 => by
    have e1 : forP tg body (e x :: xs.map e) Δ = (((ofO (tgS tg (e x) Δ)).bind body).bind fun o => match o with
      | .nx Δ2 => forP tg body (xs.map e) Δ2
      | .ct Δ2 => forP tg body (xs.map e) Δ2
      | .bk Δ2 => .ret (.nx Δ2)
      | .rt d => .ret (.rt d)) := by rw [bind_assoc]; rfl
    rw [List.map_cons, e1, bind_assoc]
    unfold loopM
    rw [bind_assoc]
    refine hb z x Δ hI ρ _ _ (fun z' Δ' hI' => ?_) (fun z' Δ' hI' => ?_) (fun a => ?_)
    · exact loop_ref hb xs z' Δ' hI' ρ R G h1 h2
    · exact loop_ref hb xs z' Δ' hI' ρ R G h1 h2
    · exact h2 a
theorem m_for {y : Pg ρ} {tg : Tg} {body : ST} {G : Out → Pg ρ} (h : Ref y ((A Δ).bind fun ds => (forP tg body ds Δ).bind G)) : Ref y ((DL.tFor tg A body Δ).bind G) := by
  have e : (DL.tFor tg A body Δ).bind G = (A Δ).bind fun ds => (forP tg body ds Δ).bind G := bind_assoc _ _ _
  rw [e]; exact h
theorem m_loop {γ : Type} {tg : Tg} {body : ST} {e : γ → D} {I : σ → List Sl → Prop} {f : α → D} {step : σ → γ → Pg (σ ⊕ α)} {K : σ ⊕ α → Pg τ} {G : Out → Pg ρ} {xs : List γ} {z : σ} (hb : ∀ z x Δ, I z Δ → RefJ I f (step z x) ((ofO (tgS tg (e x) Δ)).bind body)) (hI : I z Δ) (h1 : ∀ z Δ, I z Δ → Ref ((K (.inl z)).bind R) (G (.nx Δ))) (h2 : ∀ a, Ref ((K (.inr a)).bind R) (G (.rt (f a)))) : Ref (((loopM step xs z).bind K).bind R) ((forP tg body (xs.map e) Δ).bind G) := by
  rw [bind_assoc]
  exact loop_ref hb xs z Δ hI ρ _ G h1 h2
/-! reasoning: at most c draws, then k -/
theorem Co.asr {b : Bool} {n : Nat} {c : Prop} {p : Pg α} {k : α → Prop} (hc : c) (h : Co b n p k) : Co b n (asr c p) k := by
  unfold DL.asr; rw [if_pos hc]; exact h
theorem Co.ref {n : Nat} {p q : Pg α} {k : α → Prop} (h : Ref p q) (hp : Co true n p k) : Co true n q k := fun m => h.go _ _ (hp m)
theorem Co.map {b : Bool} {n : Nat} {p : Pg α} {f : α → β} {k : β → Prop} (h : Co b n p fun a => k (f a)) : Co b n (p.bind fun a => .ret (f a)) k := by
  have q : Co b (n + 0) (p.bind fun a => .ret (f a)) k := Co.bind (c2 := 0) (h.mono fun a ha => Co.ret ha)
  exact q
theorem lowOk_of {low : Int} (h0 : 0 < low) (h1 : low < 2 ^ 200) : lowOk low = true := lowOk_is.2 ⟨h0, h1⟩
theorem co_drawI {u : Unit} {low : Int} {k : Int → Prop} (h0 : 0 < low) (h1 : low < 2 ^ 200) (h : ∀ d, 0 ≤ d → d < low → k d) : Co true 1 (drawI u low) k := Co.asr (lowOk_of h0 h1) (Co.draw (c := 0) h0 h1 fun d d0 d1 => Co.ret (h d d0 d1))
theorem co_loop {b : Bool} {n : Nat} {γ : Type} {step : σ → γ → Pg (σ ⊕ α)} {I : Nat → σ → Prop} : ∀ (xs : List γ) (j : Nat) (z : σ), I j z → (∀ j z x, I j z → Co b n (step z x) fun r => ∃ z', r = .inl z' ∧ I (j + 1) z') → Co b (xs.length * n) (loopM step xs z) fun r => ∃ z', r = .inl z' ∧ I (j + xs.length) z'
  | [], j, z, hI, _ => Co.ret ⟨z, rfl, hI⟩
  | x :: xs, j, z, hI, h => by
    unfold loopM
    rw [List.length_cons, Nat.succ_mul, Nat.add_comm (xs.length * n)]
    refine Co.bind ((h j z x hI).mono fun r ⟨z', hr, hI'⟩ => ?_)
    subst hr
    have q := co_loop xs (j + 1) z' hI' h
    rw [show j + (xs.length + 1) = j + 1 + xs.length by omega]
    exact q
end
end DL
namespace DL
section
variable {α σ τ ρ : Type} {Δ : List Sl} {s : SE} {i : Nat} {f : α → D} {xs : List α} {R : τ → Pg ρ}
theorem m_xappL {y : Pg ρ} {G : Out → Pg ρ} (ho : ownL Δ i = some (xs.map f)) (hl : xs.length < lim) (h : Ref y ((s Δ).bind fun d => G (.nx (Δ.set i (.o (.lst (xs.map f ++ [d]))))))) : Ref y ((tX (xApp i (xE s)) Δ).bind G) := m_xapp ho (by rw [List.length_map]; exact hl) h
end
end DL
namespace DL
theorem m_stage {τ : Type} {m : Pg τ} {R : τ → Pg Out} {p : Pg Out} (h : Ref (m.bind R) p) : Ref (m.bind R) (p.bind .ret) := by rw [bind_pure]; exact h
theorem m_retO {ρ : Type} {y : Pg ρ} {Δ : List Sl} {i : Nat} {ds : List D} {G : Out → Pg ρ} (h : Δ[i]? = some (.o (.lst ds))) (hg : Ref y (G (.rt (.lst ds)))) : Ref y ((tRetO i Δ).bind G) := by
  rw [z_retO h]; exact hg
end DL
namespace DL
theorem m_go {ρ : Type} {y : Pg ρ} {Δ : List Sl} {S : ST} {G : Out → Pg ρ} (h : Ref y ((S Δ).bind G)) : Ref y ((goOn S (.nx Δ)).bind G) := by rw [goOn_eq]; exact h
theorem m_goR {ρ : Type} {y : Pg ρ} {d : D} {S : ST} {G : Out → Pg ρ} (h : Ref y (G (.rt d))) : Ref y ((goOn S (.rt d)).bind G) := by rw [goOn_eq]; exact h
end DL
namespace DL
theorem m_xappM {α τ ρ : Type} {Δ : List Sl} {s : SE} {i : Nat} {f : α → D} {xs : List α} {R : τ → Pg ρ} {m : Pg α} {K : α → Pg τ} {G : Out → Pg ρ} (ho : ownL Δ i = some (xs.map f)) (hl : xs.length < lim) (hs : Ref (m.bind fun a => .ret (f a)) (s Δ)) (hk : ∀ b, Ref ((K b).bind R) (G (.nx (Δ.set i (.o (.lst ((xs ++ [b]).map f))))))) : Ref ((m.bind K).bind R) ((tX (xApp i (xE s)) Δ).bind G) := by
  refine m_xappL ho hl (m_mon hs fun b => ?_)
  have h := hk b
  rw [List.map_append] at h
  exact h
end DL
end
section
set_option Elab.async false
set_option linter.all false
set_option maxRecDepth 100000
namespace DL
open PySem L2
section
variable {α ρ τ : Type} [Inhabited α] {Δ : List Sl} {s : SE} {i j : Nat} {f : α → D} {xs ys : List α} {ds es : List D}
theorem ownL_ne {m : Sl} (h : i ≠ j) : ownL (Δ.set j m) i = ownL Δ i := by
  unfold ownL
  rw [List.getElem?_set_ne (Ne.symm h)]
omit [Inhabited α] in
theorem erase_map : ∀ (xs : List α) (k : Nat), (xs.eraseIdx k).map f = (xs.map f).eraseIdx k
  | [], k => by simp
  | x :: xs, 0 => by simp
  | x :: xs, k + 1 => by simp [erase_map xs k]
theorem m_apop {y : Pg ρ} {G : Out → Pg ρ} (hj : ownL Δ j = some (xs.map f)) (hi : ownL Δ i = some (ys.map f)) (hij : i ≠ j) (h : Ref y ((s Δ).bind fun d => (tX (xApp i (xPop j (fun _ => .ret d))) Δ).bind G)) : Ref y ((tX (xApp i (xPop j s)) Δ).bind G) := by
  have e : (tX (xApp i (xPop j s)) Δ).bind G = (s Δ).bind fun d => (tX (xApp i (xPop j (fun _ => .ret d))) Δ).bind G := by
    show ((xApp i (xPop j s) Δ).bind _).bind G = _
    rw [xApp_e, hi, ofO_some, bind_ret, xPop_e, hj, ofO_some, bind_ret, bind_assoc, bind_assoc, bind_assoc]
    congr 1
    funext d
    show _ = ((xApp i (xPop j fun _ => .ret d) Δ).bind _).bind G
    rw [xApp_e, hi, ofO_some, bind_ret, xPop_e, hj, ofO_some, bind_ret, bind_ret]
    simp only [bind_assoc]
  rw [e]; exact h
theorem m_apopV {y : Pg ρ} {G : Out → Pg ρ} {v : Int} (hj : ownL Δ j = some (xs.map f)) (hi : ownL Δ i = some (ys.map f)) (hij : i ≠ j) (hv : 0 ≤ v ∧ v < (xs.length : Nat) ∧ inR v = true ∧ ys.length < lim) (h : Ref y (G (.nx ((Δ.set j (.o (.lst ((xs.eraseIdx v.toNat).map f)))).set i (.o (.lst ((ys ++ [ixD xs v]).map f))))))) : Ref y ((tX (xApp i (xPop j (fun _ => .ret (.int v)))) Δ).bind G) := by
  have hx : ixN xs.length v = some v.toNat := by
    unfold ixN
    rw [if_pos hv.1, if_pos hv.2.1]
  have hlt : v.toNat < xs.length := by omega
  have hx2 : ixD xs v = xs[v.toNat] := by
    unfold ixD atI
    rw [hx]
    show (xs[v.toNat]?).getD default = _
    rw [List.getElem?_eq_getElem hlt]; rfl
  have hs : seqIndex? v (xs.map f).length = some v.toNat := by
    rw [List.length_map]
    unfold seqIndex?
    simp
    omega
  have e : (tX (xApp i (xPop j (fun _ => .ret (.int v)))) Δ) = .ret (.nx ((Δ.set j (.o (.lst ((xs.eraseIdx v.toNat).map f)))).set i (.o (.lst ((ys ++ [ixD xs v]).map f))))) := by
    show ((xApp i (xPop j fun _ => .ret (.int v)) Δ).bind _) = _
    rw [xApp_e, hi, ofO_some, bind_ret, xPop_e, hj, ofO_some, bind_ret, bind_ret]
    show ((((if inR v = true then (ofO (seqIndex? v (xs.map f).length)).bind fun k => (ofO (xs.map f)[k]?).bind fun r => Pg.ret (r, Δ.set j (.o (.lst ((xs.map f).eraseIdx k)))) else .fail)).bind _).bind _) = _
    rw [if_pos hv.2.2.1, hs, ofO_some, bind_ret, List.getElem?_map, List.getElem?_eq_getElem hlt]
    show (((ofO (ownL (Δ.set j (.o (.lst ((xs.map f).eraseIdx v.toNat)))) i)).bind _).bind _) = _
    rw [ownL_ne hij, hi, ofO_some, bind_ret, if_pos (by rw [List.length_map]; exact hv.2.2.2), hx2, List.map_append, erase_map]
    rfl
  rw [e]; exact h
end
end DL
namespace DL
section
variable {ρ τ : Type} {Δ : List Sl} {s t r : SE} {A : SA} {T U : SB} {g : D → Option D} {g2 : D → D → Option D} {x y z : D} {F : List D → Pg D}
theorem m_callA {y : Pg ρ} {G : D → Pg ρ} (h : Ref y ((A Δ).bind fun ds => (F ds).bind G)) : Ref y ((cCall F A Δ).bind G) := by
  have e : (cCall F A Δ).bind G = (A Δ).bind fun ds => (F ds).bind G := bind_assoc _ _ _
  rw [e]; exact h
theorem m_tupA {y : Pg ρ} {G : D → Pg ρ} (h : Ref y ((A Δ).bind fun ds => (if ds.length ≤ lim then Pg.ret (D.tup ds) else Pg.fail).bind G)) : Ref y ((cTup A Δ).bind G) := by
  have e : (cTup A Δ).bind G = (A Δ).bind fun ds => (if ds.length ≤ lim then Pg.ret (D.tup ds) else Pg.fail).bind G := bind_assoc _ _ _
  rw [e]; exact h
theorem m_lenP {y : Pg ρ} {ω : Type} {ds : List D} {d : ω} {G : ω → Pg ρ} (hg : Ref y (G d)) (hl : ds.length ≤ lim := by exact Nat.le_of_ble_eq_true rfl) : Ref y ((if ds.length ≤ lim then Pg.ret d else .fail).bind G) := by
  rw [if_pos hl]; exact hg
theorem hC_c2_0 : c2 g2 s t Δ = (s Δ).bind fun d => c2 g2 (fun _ => .ret d) t Δ := rfl
theorem hC_c2_1 : c2 g2 (fun _ => .ret x) t Δ = (t Δ).bind fun d => c2 g2 (fun _ => .ret x) (fun _ => .ret d) Δ := rfl
theorem hC_tB_0 : tB s Δ = (s Δ).bind fun d => tB (fun _ => .ret d) Δ := rfl
theorem hC_aRg1_0 : aRg1 s Δ = (s Δ).bind fun d => aRg1 (fun _ => .ret d) Δ := rfl
theorem hC_cIf : cIf T s t Δ = (T Δ).bind fun d => cIf (fun _ => .ret d) s t Δ := rfl
theorem hC_tOr : tOr T U Δ = (T Δ).bind fun d => tOr (fun _ => .ret d) U Δ := rfl
end
end DL
end
section
set_option Elab.async false
set_option linter.all false
set_option maxRecDepth 100000
/-! two defs that stand in most laws: the same, and tuples for lists -/
namespace DL
open PySem L2
local macro_rules | `(tactic| tm_at "dp") => `(tactic| simp only [outP_rt, outP_nx, bind_draw, intOf_e, ownL_z, ownL_s, xApp_e, xPop_e, bind_ret, bind_fail, ofO_some, cVar_z, cVar_s, cVw_z, cVw_w, cVw_o, cVw_s, cC_e, c1_e, c2_e, aN_e, aC_e, cL_e, cCall_e, cMk_e, cIf_e, tB_e, tT_e, tNot_e, tAnd_e, tOr_e, eAnd_e, eOr_e, cNot_e, toB_e, truO_bl, cTup_e, aL_e, cProp_e, cOwn_e, cOwnIn_e, aLc_e, aIt_e, aSort_e, aRg1_e, aZip_e, aEnum_e, aList_e, tSeq_e, tNil_e, tRet_e, tIf_e, tSet_e, oV_e, oL_e, xE_e, tX_e, tAsg_e, tFor_e, tFrz_e, tPar_e, ite_t, ite_f, List.set_cons_zero, List.set_cons_succ, Bool.not_true, Bool.not_false, List.append_nil, ↓reduceIte, wipeS, Bool.and_self, List.cons_append, List.nil_append, Bool.false_eq_true, *])
def B_same (R : List D → Pg D) : ST := (DL.tSeq (DL.tIf (tT (cIsiT (cVar 1) (aC (cC (.ty "list")) (aC (cC (.ty "tuple")) aN)))) (DL.tSeq (DL.tIf (tOr (tB (c2 (eqO true) (c2 isiO (cVar 0) (cC (.ty "list"))) (c2 isiO (cVar 1) (cC (.ty "list"))))) (tB (c2 (eqO true) (c2 isiO (cVar 0) (cC (.ty "tuple"))) (c2 isiO (cVar 1) (cC (.ty "tuple")))))) (DL.tRet (cC (.bl false))) DL.tNil) (DL.tRet (eAnd (c2 (eqO false) (c1 lenO' (cVw 0)) (c1 lenO' (cVw 1))) (c1 allO (cL (aLc (.tp [(.nm 2), (.nm 3)]) [2, 3] (aZip (cVar 0) (cVar 1)) DL.tYes (cCall R (aC (cVar 2) (aC (cVar 3) aN))))))))) DL.tNil) (DL.tSeq (DL.tIf (tOr (tB (c1 (nonO false) (cVar 1))) (tT (cIsiT (cVar 1) (aC (cC (.ty "bool")) (aC (cC (.ty "str")) aN))))) (DL.tRet (eAnd (c2 (eqO false) (cVar 0) (cVar 1)) (eAnd (c2 (eqO false) (c2 isiO (cVar 0) (cC (.ty "bool"))) (c2 isiO (cVar 1) (cC (.ty "bool")))) (c2 (eqO false) (c1 (nonO false) (cVar 0)) (c1 (nonO false) (cVar 1)))))) DL.tNil) (DL.tRet (eAnd (c2 isiO (cVar 0) (cC (.ty "int"))) (eAnd (cNot (c2 isiO (cVar 0) (cC (.ty "bool")))) (c2 (eqO false) (cVar 0) (cVar 1)))))))
def F_same : Nat → List D → Pg D
  | 0 => fun _ => .fail
  | n + 1 => runF [] 2 4 (B_same (F_same n))
theorem cIsiT_e {s : SE} {t : SA} {Δ : List Sl} : cIsiT s t Δ = (s Δ).bind fun x => (t Δ).bind fun ds => ofO ((tyD x).bind fun z => (unT ds).bind fun ts => if ts.length ≤ 1000 then (ktAny z ts).map D.bl else none) := rfl
theorem same_non (R : List D → Pg D) : runF [] 2 4 (B_same R) [.non, .non] = .ret (.bl true) := rfl
theorem same_bl (R : List D → Pg D) (c : Bool) : runF [] 2 4 (B_same R) [.bl c, .bl c] = .ret (.bl true) := by cases c <;> rfl
theorem same_int (R : List D → Pg D) (i : Int) : runF [] 2 4 (B_same R) [.int i, .int i] = .ret (.bl true) := by
  have h : decide (i = i) = true := decide_eq_true rfl
  show Pg.ret (D.bl (decide (i = i))) = _
  rw [h]
theorem same_str (R : List D → Pg D) (z : Str) : runF [] 2 4 (B_same R) [.str z, .str z] = .ret (.bl true) := by
  have h : eqO false (.str z) (.str z) = some (.bl true) := by
    show some (D.bl (decide (z = z))) = _
    rw [decide_eq_true rfl]
  show ((((ofO (eqO false (.str z) (.str z))).bind _).bind _).bind _).bind _ = _
  rw [h]
  rfl
theorem zip_self' (ds : List D) : zipD ds ds = ds.map fun d => .tup [d, d] := zip_self ds
theorem same_row (R : List D → Pg D) (ds : List D) (x : D) (hx : x = .lst ds ∨ x = .tup ds) (hl : ds.length ≤ lim) (h : ∀ d ∈ ds, R [d, d] = .ret (.bl true)) : runF [] 2 4 (B_same R) [x, x] = .ret (.bl true) := by
  refine (runF_at [.v x, .v x, .e, .e] rfl rfl).trans ?_
  have e1 : ((tyD x).bind fun z => (unT [.ty "list", .ty "tuple"]).bind fun ts => if ts.length ≤ 1000 then (ktAny z ts).map D.bl else none) = some (.bl true) := by rcases hx with rfl | rfl <;> rfl
  have e2 : ∃ c, isiO x (.ty "list") = some (.bl c) := by rcases hx with rfl | rfl <;> exact ⟨_, rfl⟩
  have e3 : ∃ c, isiO x (.ty "tuple") = some (.bl c) := by rcases hx with rfl | rfl <;> exact ⟨_, rfl⟩
  obtain ⟨c2, e2⟩ := e2
  obtain ⟨c3, e3⟩ := e3
  have e4 : ∀ c : Bool, eqO true (.bl c) (.bl c) = some (.bl false) := fun c => by cases c <;> rfl
  have e5 : lenO' x = some (.int ds.length) := by rcases hx with rfl | rfl <;> rfl
  have e6 : eqO false (.int ds.length) (.int ds.length) = some (.bl true) := by
    show some (D.bl (decide ((ds.length : Int) = ds.length))) = _
    rw [decide_eq_true rfl]
  have e7 : zip2 x x = some (ds.map fun d => .tup [d, d]) := by rw [← zip_self']; rcases hx with rfl | rfl <;> rfl
  have e8 : (ds.map fun d => D.tup [d, d]).length ≤ lim := by rw [List.length_map]; exact hl
  have e9 : lcP (.tp [.nm 2, .nm 3]) DL.tYes (cCall R (aC (cVar 2) (aC (cVar 3) aN))) [.v x, .v x, .e, .e] (ds.map fun d => .tup [d, d]) = .ret ((ds.filter fun _ => true).map fun _ => .bl true) :=
    lcP_plain (fun d => .tup [d, d]) (fun _ => true) (fun _ => .bl true) ds fun d hd => ⟨[.v x, .v x, .v d, .v d], rfl, rfl, fun _ => h d hd⟩
  have ea : allO (.lst ((ds.filter fun _ => true).map fun _ => .bl true)) = some (.bl true) := by
    show ((unB ((ds.filter fun _ => true).map fun _ => D.bl true)).map fun ns => D.bl (ns.all id)) = _
    have : ((ds.filter fun _ => true).map fun _ => D.bl true) = ((ds.filter fun _ => true).map fun _ => true).map D.bl := by rw [List.map_map]; rfl
    rw [this, unB_map]
    simp
  have eb := @cIsiT_e
  unfold B_same
  clear hx hl h
  tm_at "dp"
theorem e_same : ∀ (n : Nat) (x : D), Pl n x → F_same (n + 1) [x, x] = .ret (.bl true)
  | n, .non, _ => same_non _
  | n, .bl c, _ => same_bl _ c
  | n, .int i, _ => same_int _ i
  | n, .str z, _ => same_str _ z
  | n + 1, .tup ds, h => by
    unfold Pl at h
    exact same_row _ ds _ (.inr rfl) (by rw [← lim_eq]; exact h.1) fun d hd => e_same n d (h.2 d hd)
  | n + 1, .lst ds, h => by
    unfold Pl at h
    exact same_row _ ds _ (.inl rfl) (by rw [← lim_eq]; exact h.1) fun d hd => e_same n d (h.2 d hd)
  | 0, .tup _, h => by unfold Pl at h; exact h.elim
  | 0, .lst _, h => by unfold Pl at h; exact h.elim
  | _, .ty _, h => by unfold Pl at h; exact h.elim
  | _, .frl _, h => by unfold Pl at h; exact h.elim
  | _, .dct _ _, h => by unfold Pl at h; exact h.elim
  | _, .ins _ _ _, h => by unfold Pl at h; exact h.elim
  | _, .cell _, h => by unfold Pl at h; exact h.elim
  | _, .exc _ _ _, h => by unfold Pl at h; exact h.elim
theorem pl_of {n : Nat} {α : Type} {f : α → D} {xs : List α} (hl : xs.length ≤ lim) (h : ∀ x ∈ xs, Pl n (f x)) : Pl (n + 1) (eL f xs) ∧ Pl (n + 1) (eT f xs) := by
  unfold eL eT Pl
  refine ⟨⟨by rw [List.length_map, lim_eq]; exact hl, ?_⟩, ⟨by rw [List.length_map, lim_eq]; exact hl, ?_⟩⟩ <;>
  · intro d hd
    obtain ⟨x, hx, rfl⟩ := List.mem_map.mp hd
    exact h x hx
theorem pl_str {n : Nat} {i : Str} : Pl n (.str i) := by cases n <;> (unfold Pl; trivial)
theorem pl_non {n : Nat} : Pl n .non := by cases n <;> (unfold Pl; trivial)
end DL
namespace DL
open PySem L2
def sameF (_ _ : D) : Bool := true
section
variable {Δ : List Sl} {A C : SA} {ds es : List D} {d : D} {α : Type} {f : α → D} {xs : List α}
end
end DL
end
section
set_option Elab.async false
set_option linter.all false
set_option maxRecDepth 1000000
/-! the first numbers of the script -/
namespace DL
open PySem L2
local macro_rules | `(tactic| tm_at "dp") => `(tactic| simp only [outP_rt, outP_nx, bind_draw, intOf_e, ownL_z, ownL_s, xApp_e, xPop_e, bind_ret, bind_fail, ofO_some, cVar_z, cVar_s, cVw_z, cVw_w, cVw_o, cVw_s, cC_e, c1_e, c2_e, aN_e, aC_e, cL_e, cCall_e, cMk_e, cIf_e, tB_e, tT_e, tNot_e, tAnd_e, tOr_e, eAnd_e, eOr_e, cNot_e, toB_e, truO_bl, cTup_e, aL_e, cProp_e, cOwn_e, cOwnIn_e, aLc_e, aIt_e, aSort_e, aRg1_e, aZip_e, aEnum_e, aList_e, tSeq_e, tNil_e, tRet_e, tIf_e, tSet_e, oV_e, oL_e, xE_e, tX_e, tAsg_e, tFor_e, tFrz_e, tPar_e, ite_t, ite_f, List.set_cons_zero, List.set_cons_succ, Bool.not_true, Bool.not_false, List.append_nil, ↓reduceIte, wipeS, Bool.and_self, List.cons_append, List.nil_append, Bool.false_eq_true, *])
theorem cutL_len {α : Type} (xs : List α) (lo hi : Option Int) : (cutL xs lo hi).length ≤ xs.length := by
  unfold cutL
  rw [List.length_take, List.length_drop]
  omega
theorem cutL_from {α : Type} {xs : List α} {t : Nat} {hi : Option Int} {j : Nat} {v : α} (h : (cutL xs (some (t : Int)) hi)[j]? = some v) : t < xs.length := by
  have h1 := (List.getElem?_eq_some_iff.mp h).1
  unfold cutL at h1
  rw [List.length_take, List.length_drop] at h1
  have e2 : HT.sIx xs.length 0 (some (t : Int)) = min t xs.length := by
    unfold HT.sIx
    simp
    omega
  rw [e2] at h1
  omega
theorem Co.eq {α : Type} {c : Nat} {p : Pg α} {k : α → Prop} (h : Co false c p k) : ∃ a, p = .ret a ∧ k a := by
  have q := h 0
  cases p with
  | ret a => exact ⟨a, rfl, q.2⟩
  | fail => exact q.elim
  | exn _ => exact q.elim
  | draw low f => cases q.1
theorem Co.of_eq {α : Type} {b : Bool} {c : Nat} {p : Pg α} {a : α} {k : α → Prop} (e : p = .ret a) (h : k a) : Co b c p k := by rw [e]; exact Co.ret h
theorem ix_lst {α : Type} {f : α → D} {xs : List α} {j : Nat} {x : α} (h : xs[j]? = some x) : ixO (.lst (xs.map f)) (.int (j : Nat)) = some (f x) := by
  show L2.atI (xs.map f) (j : Nat) = _
  exact atI_nat (by rw [List.getElem?_map, h]; rfl)
theorem enum_map' {f : Int → D} {xs : List Int} {j : Nat} {d : D} (h : (enumD (xs.map f))[j]? = some d) : ∃ v, xs[j]? = some v ∧ d = .tup [.int (j : Nat), f v] := by
  unfold enumD at h
  rw [List.getElem?_map, List.getElem?_zipIdx, List.getElem?_map] at h
  cases hx : xs[j]? with
  | none => rw [hx] at h; cases h
  | some v =>
    rw [hx] at h
    refine ⟨v, rfl, ?_⟩
    simp at h
    exact h.symm
theorem ixN_pos' {n : Nat} {i : Int} (h0 : 0 ≤ i) (h1 : i < n) : L2.ixN n i = some i.toNat := by
  unfold L2.ixN
  rw [if_pos h0, if_pos h1]
end DL
namespace DL
open PySem L2
def B_tail (F : List D → Pg D) (t : Nat) : ST := DL.tSeq (tSet 1 (oV (cCall F (aC (cVar 0) (aC (cC (.int t)) aN))))) (DL.tRet (c1 allO (cL (aLc (.nm 2) [2] (aRg1 (c1 lenO' (cVw 1))) DL.tYes (cBox (cVar 1) (cVar 2))))))
def isT : Pg D → Bool
  | .ret (.bl true) => true
  | _ => false
theorem isT_is {p : Pg D} (h : isT p = true) : p = .ret (.bl true) := by
  unfold isT at h
  split at h
  · rfl
  · cases h
end DL
end
section
set_option Elab.async false
set_option linter.all false
/-! plain: dicts as lists of pairs, sums -/
namespace DL
open PySem L2
section
variable {α : Type}
end
/-! sums -/
theorem len_rngI {lo : Int} {n : Nat} : (rngI lo n).length = n := by unfold rngI; simp
theorem atI_nat' {α : Type} {xs : List α} {j : Nat} : atI xs (j : Int) = xs[j]? := by
  unfold atI ixN
  by_cases h : j < xs.length
  · rw [if_pos (by omega), if_pos (by omega)]; simp
  · rw [if_pos (by omega), if_neg (by omega), List.getElem?_eq_none (by omega)]; rfl
theorem ixD_nat {α : Type} [Inhabited α] {xs : List α} {j : Nat} {x : α} (h : xs[j]? = some x) : ixD xs (j : Int) = x := by
  unfold ixD; rw [atI_nat', h]; rfl
end DL
end
section
set_option Elab.async false
set_option linter.all false
/-! plain: the draws that stand in most laws -/
namespace DL
open PySem L2
section
variable {α τ : Type} [Inhabited α]
theorem lim_le {n : Nat} (h : n ≤ 100000) : n ≤ lim := Nat.le_trans h (by decide)
theorem lim_lt {n : Nat} (h : n ≤ 100000) : n < lim := Nat.lt_of_le_of_lt h (by decide)
theorem co_one {u : Unit} {xs : List α} (h0 : xs ≠ []) (h1 : xs.length ≤ 1000) : Co true 1 ((drawI u (xs.length : Int)).bind fun b => asr ((atI xs b).isSome = true) (.ret (ixD xs b))) fun x => x ∈ xs := by
  have hp : 0 < xs.length := List.length_pos_iff.mpr h0
  have q : Co true (1 + 0) ((drawI u (xs.length : Int)).bind fun b => asr ((atI xs b).isSome = true) (.ret (ixD xs b))) fun x => x ∈ xs := Co.bind (co_drawI (by omega) (by omega) fun d d0 d1 => by
    obtain ⟨k, rfl⟩ := Int.eq_ofNat_of_zero_le d0
    have hk : k < xs.length := by omega
    have hk2 := List.getElem?_eq_getElem hk
    refine Co.asr (by rw [atI_nat', hk2]; rfl) (Co.ret ?_)
    rw [ixD_nat hk2]
    exact List.getElem_mem hk)
  exact q
/-- one is taken out and put behind -/
noncomputable def pickStep (u : Unit) (z : List α × List α) (_ : Int) : Pg ((List α × List α) ⊕ τ) := (drawI u (z.1.length : Int)).bind fun b => asr (0 ≤ b ∧ b < (z.1.length : Int) ∧ inR b = true ∧ z.2.length < lim) (.ret (.inl ((z.1.eraseIdx b.toNat), (z.2 ++ [ixD z.1 b]))))
omit [Inhabited α] in
theorem perm_at : ∀ (xs : List α) (k : Nat) (h : k < xs.length), (xs[k] :: xs.eraseIdx k).Perm xs
  | [], k, h => by simp at h
  | x :: xs, 0, h => by simp
  | x :: xs, k + 1, h => by
    have i := perm_at xs k (by simpa using h)
    simp only [List.getElem_cons_succ, List.eraseIdx_cons_succ]
    exact (List.Perm.swap _ _ _).trans (i.cons x)
omit [Inhabited α] in
theorem perm_pick {xs ys : List α} {k : Nat} (h : k < xs.length) : ((ys ++ [xs[k]]) ++ xs.eraseIdx k).Perm (ys ++ xs) := by
  rw [List.append_assoc]
  exact List.Perm.append_left ys (perm_at xs k h)
omit [Inhabited α] in
theorem co_loopN {b : Bool} {n : Nat} {σ γ : Type} {step : σ → γ → Pg (σ ⊕ τ)} {I : Nat → σ → Prop} : ∀ (xs : List γ) (j : Nat) (z : σ), I j z → (∀ i z x, j ≤ i → i < j + xs.length → I i z → Co b n (step z x) fun r => ∃ z', r = .inl z' ∧ I (i + 1) z') → Co b (xs.length * n) (loopM step xs z) fun r => ∃ z', r = .inl z' ∧ I (j + xs.length) z'
  | [], j, z, hI, _ => Co.ret ⟨z, rfl, hI⟩
  | x :: xs, j, z, hI, h => by
    unfold loopM
    rw [List.length_cons, Nat.succ_mul, Nat.add_comm (xs.length * n)]
    refine Co.bind ((h j z x (Nat.le_refl _) (by rw [List.length_cons]; omega) hI).mono fun r ⟨z', hr, hI'⟩ => ?_)
    subst hr
    have q := co_loopN xs (j + 1) z' hI' fun i z x h1 h2 => h i z x (by omega) (by rw [List.length_cons]; omega)
    rw [show j + (xs.length + 1) = j + 1 + xs.length by omega]
    exact q
theorem co_picks {u : Unit} {pool : List α} {n : Nat} (hn : n ≤ pool.length) (hl : pool.length ≤ 1000) : Co true (n * 1) (loopM (pickStep (τ := τ) u) (rngI 0 n) (pool, [])) fun r => ∃ rest ys, r = .inl (rest, ys) ∧ (ys ++ rest).Perm pool ∧ ys.length = n := by
  have q := co_loopN (b := true) (n := 1) (step := pickStep (τ := τ) u) (I := fun j z => (z.2 ++ z.1).Perm pool ∧ z.2.length = j) (rngI 0 n) 0 (pool, []) ⟨by simp, rfl⟩ ?_
  · rw [len_rngI] at q
    refine q.mono fun r ⟨z, hr, h1, h2⟩ => ⟨z.1, z.2, hr, h1, by omega⟩
  · rintro j z x _ hj ⟨h1, h2⟩
    rw [len_rngI] at hj
    have hlen := h1.length_eq
    rw [List.length_append] at hlen
    have hq : Co true (1 + 0) (pickStep (τ := τ) u z x) fun r => ∃ z', r = .inl z' ∧ (z'.2 ++ z'.1).Perm pool ∧ z'.2.length = j + 1 := Co.bind (co_drawI (by omega) (by omega) fun d d0 d1 => by
      obtain ⟨k, rfl⟩ := Int.eq_ofNat_of_zero_le d0
      have hk : k < z.1.length := by omega
      refine Co.asr ⟨d0, d1, inR_nat (by omega), lim_lt (by omega)⟩ (Co.ret ⟨_, rfl, ?_, by rw [List.length_append, List.length_singleton, h2]⟩)
      rw [ixD_nat (List.getElem?_eq_getElem hk)]
      exact (perm_pick hk).trans h1)
    exact hq
end
end DL
end
section
set_option Elab.async false
set_option linter.all false
set_option maxRecDepth 1000000
set_option maxHeartbeats 1000000
/-! the trees with the pairs (depth, name) of their nodes -/
namespace Pk
open PySem DL L2
/-! dicts of data -/
theorem valD_drop {c k : Key} : ∀ {kk : List Key} {ds : List D}, valD (dropKD kk ds c).1 (dropKD kk ds c).2 k = if k = c then none else valD kk ds k
  | [], ds => by
    have a : dropKD [] ds c = ([], []) := by cases ds <;> rfl
    have b : valD [] ds k = none := by cases ds <;> rfl
    rw [a, b]; split <;> rfl
  | _ :: _, [] => by
    show valD [] [] k = _
    have b : ∀ x xs, valD (x :: xs) [] k = none := fun _ _ => rfl
    rw [b]; split <;> rfl
  | q :: kk, d :: ds => by
    have ih := valD_drop (c := c) (k := k) (kk := kk) (ds := ds)
    by_cases e : q = c
    · have a : dropKD (q :: kk) (d :: ds) c = dropKD kk ds c := by rw [dropKD, if_pos e]
      rw [a, ih]
      by_cases e2 : k = c
      · rw [if_pos e2, if_pos e2]
      · rw [if_neg e2, if_neg e2]
        show _ = if q = k then some d else valD kk ds k
        rw [if_neg fun z => e2 (by rw [← z]; exact e)]
    · have a : dropKD (q :: kk) (d :: ds) c = (q :: (dropKD kk ds c).1, d :: (dropKD kk ds c).2) := by rw [dropKD, if_neg e]
      rw [a]
      show (if q = k then some d else valD (dropKD kk ds c).1 (dropKD kk ds c).2 k) = if k = c then none else (if q = k then some d else valD kk ds k)
      rw [ih]
      by_cases e2 : q = k
      · rw [if_pos e2, if_pos e2, if_neg fun z => e (e2.trans z)]
      · rw [if_neg e2, if_neg e2]
theorem drop_len {c : Key} : ∀ {kk : List Key} {ds : List D}, kk.length = ds.length → (dropKD kk ds c).1.length = (dropKD kk ds c).2.length ∧ (dropKD kk ds c).2.length ≤ ds.length
  | [], [], _ => ⟨rfl, Nat.le_refl _⟩
  | [], _ :: _, h => by cases h
  | _ :: _, [], h => by cases h
  | q :: kk, d :: ds, h => by
    obtain ⟨a, b⟩ := drop_len (c := c) (kk := kk) (ds := ds) (by simpa using h)
    by_cases e : q = c
    · rw [dropKD, if_pos e]; exact ⟨a, by rw [List.length_cons]; omega⟩
    · rw [dropKD, if_neg e]; exact ⟨by simp [a], by simp [b]⟩
theorem valD_map {c k : Key} {v : D} : ∀ {kk : List Key} {ds : List D}, kk.length = ds.length → valD kk ((kk.zip ds).map fun p => if p.1 = c then v else p.2) k = if k = c then (valD kk ds k).map fun _ => v else valD kk ds k
  | [], [], _ => by
    show none = _
    split <;> rfl
  | [], _ :: _, h => by cases h
  | _ :: _, [], h => by cases h
  | q :: kk, d :: ds, h => by
    have ih := valD_map (c := c) (k := k) (v := v) (kk := kk) (ds := ds) (by simpa using h)
    show (if q = k then some (if q = c then v else d) else valD kk ((kk.zip ds).map fun p => if p.1 = c then v else p.2) k) = if k = c then (if q = k then some d else valD kk ds k).map (fun _ => v) else (if q = k then some d else valD kk ds k)
    rw [ih]
    by_cases e : q = k
    · subst e
      rw [if_pos rfl, if_pos rfl]
      split <;> rfl
    · rw [if_neg e, if_neg e]
theorem valD_some {k : Key} : ∀ {kk : List Key} {ds : List D}, kk.length = ds.length → (kk.any fun c => decide (c = k)) = true → (valD kk ds k).isSome = true
  | [], _, _, h => by cases h
  | _ :: _, [], h, _ => by cases h
  | q :: kk, d :: ds, l, h => by
    rw [List.any_cons, Bool.or_eq_true] at h
    show (if q = k then some d else valD kk ds k).isSome = true
    by_cases e : q = k
    · rw [if_pos e]; rfl
    · rw [if_neg e]
      exact valD_some (by simpa using l) (h.resolve_left fun z => e (of_decide_eq_true z))
theorem valD_app {k c : Key} {v : D} : ∀ {kk : List Key} {ds : List D}, kk.length = ds.length → (kk.any fun x => decide (x = c)) = false → valD (kk ++ [c]) (ds ++ [v]) k = if k = c then some v else valD kk ds k
  | [], [], _, _ => by
    show (if c = k then some v else none) = if k = c then some v else none
    by_cases e : c = k
    · rw [if_pos e, if_pos e.symm]
    · rw [if_neg e, if_neg fun z => e z.symm]
  | [], _ :: _, h, _ => by cases h
  | _ :: _, [], h, _ => by cases h
  | q :: kk, d :: ds, l, h => by
    rw [List.any_cons, Bool.or_eq_false_iff] at h
    have ih := valD_app (k := k) (c := c) (v := v) (kk := kk) (ds := ds) (by simpa using l) h.2
    show (if q = k then some d else valD (kk ++ [c]) (ds ++ [v]) k) = if k = c then some v else (if q = k then some d else valD kk ds k)
    rw [ih]
    by_cases e : q = k
    · rw [if_pos e, if_pos e, if_neg fun z => of_decide_eq_false h.1 (e.trans z)]
    · rw [if_neg e, if_neg e]
theorem valD_put {c k : Key} {v : D} {kk : List Key} {ds : List D} (l : kk.length = ds.length) : valD (dputD kk ds c v).1 (dputD kk ds c v).2 k = if k = c then some v else valD kk ds k := by
  unfold dputD
  by_cases h : (kk.any fun x => decide (x = c)) = true
  · rw [if_pos h]
    show valD kk ((kk.zip ds).map fun p => if p.1 = c then v else p.2) k = _
    rw [valD_map l]
    by_cases e : k = c
    · rw [if_pos e, if_pos e]
      have := valD_some (k := c) l h
      rw [e]
      cases q : valD kk ds c with
      | none => rw [q] at this; cases this
      | some a => rfl
    · rw [if_neg e, if_neg e]
  · have h' : (kk.any fun x => decide (x = c)) = false := by
      cases q : (kk.any fun x => decide (x = c)) with
      | false => rfl
      | true => exact absurd q h
    rw [if_neg h]
    exact valD_app l h'
theorem put_len {c : Key} {v : D} {kk : List Key} {ds : List D} (l : kk.length = ds.length) : (dputD kk ds c v).1.length = (dputD kk ds c v).2.length ∧ (dputD kk ds c v).2.length ≤ ds.length + 1 := by
  unfold dputD
  split
  · exact ⟨by simp [l], by simp; omega⟩
  · exact ⟨by simp [l], by simp⟩
/-! the trees -/
/-- what stands beneath a depth: trees, the last one first -/
def St := Int → List D
def stepT (st : St) (q : Int × Str) : St := fun k => if k = q.1 then st q.1 ++ [.tup [.str q.2, .tup (st (q.1 + 1)).reverse]] else if k = q.1 + 1 then [] else st k
def treesD (rows : List (Int × Str)) : List D := ((rows.reverse.foldl stepT fun _ => []) 1).reverse
structure Rep (kk : List Key) (ds : List D) (st : St) (n : Nat) : Prop where
  len : kk.length = ds.length
  num : ds.length ≤ n
  val : ∀ k : Int, (valD kk ds (.inl k)).getD (.lst []) = .lst (st k)
  few : ∀ k : Int, (st k).length ≤ n
theorem rep_step {kk : List Key} {ds : List D} {st : St} {n : Nat} (h : Rep kk ds st n) (q : Int × Str) : Rep (dputD (dropKD kk ds (.inl (q.1 + 1))).1 (dropKD kk ds (.inl (q.1 + 1))).2 (.inl q.1) (.lst (st q.1 ++ [.tup [.str q.2, .tup (st (q.1 + 1)).reverse]]))).1 (dputD (dropKD kk ds (.inl (q.1 + 1))).1 (dropKD kk ds (.inl (q.1 + 1))).2 (.inl q.1) (.lst (st q.1 ++ [.tup [.str q.2, .tup (st (q.1 + 1)).reverse]]))).2 (stepT st q) (n + 1) := by
  obtain ⟨d1, d2⟩ := drop_len (c := .inl (q.1 + 1)) h.len
  obtain ⟨p1, p2⟩ := put_len (c := .inl q.1) (v := .lst (st q.1 ++ [.tup [.str q.2, .tup (st (q.1 + 1)).reverse]])) d1
  refine ⟨p1, by have := h.num; omega, fun k => ?_, fun k => ?_⟩
  · rw [valD_put d1, valD_drop]
    unfold stepT
    by_cases e : k = q.1
    · rw [if_pos (by rw [e]), if_pos e]; rfl
    · rw [if_neg (fun z => e (Sum.inl.inj z)), if_neg e]
      by_cases e2 : k = q.1 + 1
      · rw [if_pos (by rw [e2]), if_pos e2]; rfl
      · rw [if_neg (fun z => e2 (Sum.inl.inj z)), if_neg e2]; exact h.val k
  · unfold stepT
    split
    · rw [List.length_append, List.length_singleton]; have := h.few q.1; omega
    · split
      · exact Nat.zero_le _
      · have := h.few k; omega
theorem drop_none {c : Key} : ∀ {kk : List Key} {ds : List D}, kk.length = ds.length → valD kk ds c = none → dropKD kk ds c = (kk, ds)
  | [], [], _, _ => rfl
  | [], _ :: _, h, _ => by cases h
  | _ :: _, [], h, _ => by cases h
  | q :: kk, d :: ds, l, h => by
    have h : (if q = c then some d else valD kk ds c) = none := h
    by_cases e : q = c
    · rw [if_pos e] at h; cases h
    · rw [if_neg e] at h
      rw [dropKD, if_neg e, drop_none (by simpa using l) h]
theorem nil_is (Δ : List Sl) : (cL (aL aN)) Δ = .ret (.lst []) := by
  show ((if ([] : List D).length ≤ lim then Pg.ret ([] : List D) else .fail).bind fun ds => .ret (D.lst ds)) = _
  rw [if_pos (show ([] : List D).length ≤ lim from Nat.zero_le _)]; rfl
abbrev popS : SX := xPopD 1 (c2 addO (cVar 2) (cC (.int 1))) (cL (aL aN))
theorem pop_is {kk : List Key} {ds : List D} {st : St} {n : Nat} {r : D} {w4 : Sl} (h : Rep kk ds st n) (d : Int) (x : Str) : popS [.v r, .o (.dct kk ds), .v (.int d), .v (.str x), w4] = .ret (.lst (st (d + 1)), [.v r, .o (.dct (dropKD kk ds (.inl (d + 1))).1 (dropKD kk ds (.inl (d + 1))).2), .v (.int d), .v (.str x), w4]) := by
  show (((cL (aL aN)) [.v r, .o (.dct kk ds), .v (.int d), .v (.str x), w4]).bind fun z => match valD kk ds (.inl (d + 1)) with | some v => Pg.ret (v, [.v r, .o (.dct (dropKD kk ds (.inl (d + 1))).1 (dropKD kk ds (.inl (d + 1))).2), .v (.int d), .v (.str x), w4]) | none => .ret (z, [.v r, .o (.dct kk ds), .v (.int d), .v (.str x), w4])) = _
  rw [nil_is, bind_ret]
  have v := h.val (d + 1)
  cases q : valD kk ds (.inl (d + 1)) with
  | some a =>
    rw [q] at v
    have v : a = .lst (st (d + 1)) := v
    rw [v]
  | none =>
    rw [q] at v
    have v : D.lst [] = .lst (st (d + 1)) := v
    rw [drop_none h.len q, ← v]
abbrev newS : SE := cL (aL (aStar (cGetO 1 (cVar 2) (cL (aL aN))) (aC (cTup (aC (cVar 3) (aC (c1 tupO (cL (aRev (cVw 4)))) aN))) aN)))
theorem new_is {kk : List Key} {ds : List D} {st : St} {n : Nat} {r : D} (h : Rep kk ds st n) (hn : n < 90000) (d : Int) (x : Str) : newS [.v r, .o (.dct (dropKD kk ds (.inl (d + 1))).1 (dropKD kk ds (.inl (d + 1))).2), .v (.int d), .v (.str x), .v (.lst (st (d + 1)))] = .ret (.lst (st d ++ [.tup [.str x, .tup (st (d + 1)).reverse]])) := by
  have g : (cGetO 1 (cVar 2) (cL (aL aN))) [.v r, .o (.dct (dropKD kk ds (.inl (d + 1))).1 (dropKD kk ds (.inl (d + 1))).2), .v (.int d), .v (.str x), .v (.lst (st (d + 1)))] = .ret (.lst (st d)) := by
    show (((cL (aL aN)) [.v r, .o (.dct (dropKD kk ds (.inl (d + 1))).1 (dropKD kk ds (.inl (d + 1))).2), .v (.int d), .v (.str x), .v (.lst (st (d + 1)))]).bind fun z => Pg.ret ((valD (dropKD kk ds (.inl (d + 1))).1 (dropKD kk ds (.inl (d + 1))).2 (.inl d)).getD z)) = _
    rw [nil_is, bind_ret, valD_drop, if_neg (fun z => by have := Sum.inl.inj z; omega), h.val d]
  have tp : (cTup (aC (cVar 3) (aC (c1 tupO (cL (aRev (cVw 4)))) aN))) [.v r, .o (.dct (dropKD kk ds (.inl (d + 1))).1 (dropKD kk ds (.inl (d + 1))).2), .v (.int d), .v (.str x), .v (.lst (st (d + 1)))] = .ret (.tup [.str x, .tup (st (d + 1)).reverse]) := by
    show (if [D.str x, .tup (st (d + 1)).reverse].length ≤ lim then Pg.ret (D.tup [.str x, .tup (st (d + 1)).reverse]) else .fail) = _
    rw [if_pos (lim_le (by show 2 ≤ 100000; decide))]
  show ((((cGetO 1 (cVar 2) (cL (aL aN))) [.v r, .o (.dct (dropKD kk ds (.inl (d + 1))).1 (dropKD kk ds (.inl (d + 1))).2), .v (.int d), .v (.str x), .v (.lst (st (d + 1)))]).bind fun z => (ofO (seqV z)).bind fun xs => (((cTup (aC (cVar 3) (aC (c1 tupO (cL (aRev (cVw 4)))) aN))) [.v r, .o (.dct (dropKD kk ds (.inl (d + 1))).1 (dropKD kk ds (.inl (d + 1))).2), .v (.int d), .v (.str x), .v (.lst (st (d + 1)))]).bind fun y => Pg.ret [y]).bind fun ys => .ret (xs ++ ys)).bind fun ds => if ds.length ≤ lim then Pg.ret ds else .fail).bind (fun ds => .ret (D.lst ds)) = _
  rw [g, tp, bind_ret]
  show ((if (st d ++ [D.tup [.str x, .tup (st (d + 1)).reverse]]).length ≤ lim then Pg.ret (st d ++ [D.tup [.str x, .tup (st (d + 1)).reverse]]) else .fail).bind fun ds => .ret (D.lst ds)) = _
  rw [if_pos (lim_le (by rw [List.length_append, List.length_singleton]; have := h.few d; omega))]; rfl
abbrev bodyS : ST := DL.tSeq (tSetX 4 popS) (tPutD 1 newS (cVar 2))
theorem body_is {kk : List Key} {ds : List D} {st : St} {n : Nat} {r : D} {w4 : Sl} (h : Rep kk ds st n) (hn : n < 90000) (d : Int) (x : Str) : ∃ kk' ds', bodyS [.v r, .o (.dct kk ds), .v (.int d), .v (.str x), w4] = .ret (.nx [.v r, .o (.dct kk' ds'), .v (.int d), .v (.str x), .v (.lst (st (d + 1)))]) ∧ Rep kk' ds' (stepT st (d, x)) (n + 1) := by
  refine ⟨_, _, ?_, rep_step h (d, x)⟩
  have l2 := (drop_len (c := .inl (d + 1)) h.len).2
  show (((popS [.v r, .o (.dct kk ds), .v (.int d), .v (.str x), w4]).bind fun r => Pg.ret (Out.nx (r.2.set 4 (.v r.1)))).bind fun o => match o with | .nx Δ => tPutD 1 newS (cVar 2) Δ | o => .ret o) = _
  rw [pop_is h, bind_ret]
  show ((newS [.v r, .o (.dct (dropKD kk ds (.inl (d + 1))).1 (dropKD kk ds (.inl (d + 1))).2), .v (.int d), .v (.str x), .v (.lst (st (d + 1)))]).bind fun y => if (dropKD kk ds (.inl (d + 1))).2.length < lim then Pg.ret (Out.nx [.v r, .o (.dct (dputD (dropKD kk ds (.inl (d + 1))).1 (dropKD kk ds (.inl (d + 1))).2 (.inl d) y).1 (dputD (dropKD kk ds (.inl (d + 1))).1 (dropKD kk ds (.inl (d + 1))).2 (.inl d) y).2), .v (.int d), .v (.str x), .v (.lst (st (d + 1)))]) else .fail) = _
  rw [new_is h hn, bind_ret, if_pos (Nat.lt_of_le_of_lt (Nat.le_trans l2 h.num) (lim_lt (by omega)))]
theorem loop_is {r : D} : ∀ (qs : List (Int × Str)) (kk : List Key) (ds : List D) (st : St) (n : Nat) (w2 w3 w4 : Sl), Rep kk ds st n → n + qs.length < 90000 → ∃ kk' ds' v2 v3 v4, forP (.tp [.nm 2, .nm 3]) bodyS (qs.map (e2 eI eS)) [.v r, .o (.dct kk ds), w2, w3, w4] = .ret (.nx [.v r, .o (.dct kk' ds'), v2, v3, v4]) ∧ Rep kk' ds' (qs.foldl stepT st) (n + qs.length)
  | [], kk, ds, st, n, w2, w3, w4, h, _ => ⟨kk, ds, w2, w3, w4, rfl, h⟩
  | q :: qs, kk, ds, st, n, w2, w3, w4, h, hl => by
    rw [List.length_cons] at hl ⊢
    obtain ⟨kk1, ds1, e1, r1⟩ := body_is (r := r) (w4 := w4) h (by omega) q.1 q.2
    obtain ⟨kk2, ds2, v2, v3, v4, e2', r2⟩ := loop_is (r := r) qs kk1 ds1 (stepT st q) (n + 1) (.v (.int q.1)) (.v (.str q.2)) (.v (.lst (st (q.1 + 1)))) r1 (by omega)
    refine ⟨kk2, ds2, v2, v3, v4, ?_, by rw [show n + (qs.length + 1) = n + 1 + qs.length by omega]; exact r2⟩
    show ((bodyS [.v r, .o (.dct kk ds), .v (.int q.1), .v (.str q.2), w4]).bind fun o => match o with
      | .nx Δ2 => forP (.tp [.nm 2, .nm 3]) bodyS (qs.map (e2 eI eS)) Δ2
      | .ct Δ2 => forP (.tp [.nm 2, .nm 3]) bodyS (qs.map (e2 eI eS)) Δ2
      | .bk Δ2 => .ret (.nx Δ2)
      | .rt d => .ret (.rt d)) = _
    rw [e1, bind_ret]
    exact e2'
theorem trees_of_is {rows : List (Int × Str)} (hl : rows.length < 80000) : F_trees_of [eT (e2 eI eS) rows] = .ret (.tup (treesD rows)) := by
  obtain ⟨kk, ds, v2, v3, v4, e, h⟩ := loop_is (r := eT (e2 eI eS) rows) rows.reverse [] [] (fun _ => []) 0 .e .e .e ⟨rfl, Nat.le_refl _, fun k => rfl, fun k => Nat.le_refl _⟩ (by rw [List.length_reverse]; omega)
  have it : (aIt (c1 revO (cVar 0))) [.v (eT (e2 eI eS) rows), .o (.dct [] []), .e, .e, .e] = .ret (rows.reverse.map (e2 eI eS)) := by
    rw [List.map_reverse]
    rfl
  have fin : (c1 tupO (cL (aRev (cGet (cVar 1) (cC (.int 1)) (cL (aL aN)))))) [.v (eT (e2 eI eS) rows), .v (.dct kk ds), v2, v3, v4] = .ret (.tup (treesD rows)) := by
    have g : (cGet (cVar 1) (cC (.int 1)) (cL (aL aN))) [.v (eT (e2 eI eS) rows), .v (.dct kk ds), v2, v3, v4] = .ret (.lst ((rows.reverse.foldl stepT fun _ => []) 1)) := by
      show (((cL (aL aN)) [.v (eT (e2 eI eS) rows), .v (.dct kk ds), v2, v3, v4]).bind fun z => Pg.ret ((valD kk ds (.inl 1)).getD z)) = _
      rw [nil_is, bind_ret, h.val 1]
    show ((((cGet (cVar 1) (cC (.int 1)) (cL (aL aN))) [.v (eT (e2 eI eS) rows), .v (.dct kk ds), v2, v3, v4]).bind fun d => (ofO (lsV d)).bind fun ds => Pg.ret ds.reverse).bind fun ds => Pg.ret (D.lst ds)).bind (fun d => ofO (tupO d)) = _
    rw [g]; rfl
  show ((B_trees_of [.v (eT (e2 eI eS) rows), .e, .e, .e, .e]).bind fun o => match o with
    | .nx _ => .ret .non
    | .rt d => .ret d
    | _ => .fail) = _
  have b : B_trees_of [.v (eT (e2 eI eS) rows), .e, .e, .e, .e] = .ret (.rt (.tup (treesD rows))) := by
    show ((((aIt (c1 revO (cVar 0))) [.v (eT (e2 eI eS) rows), .o (.dct [] []), .e, .e, .e]).bind fun ds => forP (.tp [.nm 2, .nm 3]) bodyS ds [.v (eT (e2 eI eS) rows), .o (.dct [] []), .e, .e, .e]).bind fun o => match o with
      | .nx Δ => (tFrz 1 (tRet (c1 tupO (cL (aRev (cGet (cVar 1) (cC (.int 1)) (cL (aL aN)))))))) Δ
      | o => .ret o) = _
    rw [it, bind_ret, e, bind_ret]
    show ((c1 tupO (cL (aRev (cGet (cVar 1) (cC (.int 1)) (cL (aL aN)))))) [.v (eT (e2 eI eS) rows), .v (.dct kk ds), v2, v3, v4]).bind (fun d => Pg.ret (Out.rt d)) = _
    rw [fin]; rfl
  rw [b]; rfl
end Pk
end
section
set_option Elab.async false
set_option linter.all false
set_option maxRecDepth 1000000
set_option maxHeartbeats 1000000
/-! forests, by first tree and those behind it -/
namespace Pk
open PySem DL L2
inductive Fo where
  | nil : Fo
  | cons (name : Str) (parts rest : Fo) : Fo
def encF : Fo → List D
  | .nil => []
  | .cons n p r => .tup [.str n, .tup (encF p)] :: encF r
def nodes : Int → Fo → List (Int × Str)
  | _, .nil => []
  | d, .cons n p r => (d, n) :: (nodes (d + 1) p ++ nodes d r)
def Fo.size : Fo → Nat
  | .nil => 0
  | .cons _ p r => p.size + r.size + 1
theorem nodes_len : ∀ (f : Fo) (d : Int), (nodes d f).length = f.size
  | .nil, _ => rfl
  | .cons n p r, d => by
    show (nodes (d + 1) p ++ nodes d r).length + 1 = p.size + r.size + 1
    rw [List.length_append, nodes_len p, nodes_len r]
theorem fold_nodes : ∀ (f : Fo) (d : Int) (st : St), (∀ k, d < k → st k = []) → ((nodes d f).reverse.foldl stepT st) d = st d ++ (encF f).reverse ∧ (∀ k, d < k → ((nodes d f).reverse.foldl stepT st) k = []) ∧ ∀ k, k < d → ((nodes d f).reverse.foldl stepT st) k = st k
  | .nil, d, st, h => ⟨(List.append_nil _).symm, h, fun _ _ => rfl⟩
  | .cons n p r, d, st, h => by
    have e : (nodes d (.cons n p r)).reverse = (nodes d r).reverse ++ ((nodes (d + 1) p).reverse ++ [(d, n)]) := by
      show ((d, n) :: (nodes (d + 1) p ++ nodes d r)).reverse = _
      rw [List.reverse_cons, List.reverse_append, List.append_assoc]
    rw [e, List.foldl_append, List.foldl_append]
    obtain ⟨a1, a2, a3⟩ := fold_nodes r d st h
    generalize (nodes d r).reverse.foldl stepT st = s1 at a1 a2 a3
    obtain ⟨b1, b2, b3⟩ := fold_nodes p (d + 1) s1 fun k hk => a2 k (by omega)
    generalize (nodes (d + 1) p).reverse.foldl stepT s1 = s2 at b1 b2 b3
    show stepT s2 (d, n) d = _ ∧ (∀ k, d < k → stepT s2 (d, n) k = []) ∧ ∀ k, k < d → stepT s2 (d, n) k = st k
    have c1 := a2 (d + 1) (by omega)
    rw [c1, List.nil_append] at b1
    refine ⟨?_, fun k hk => ?_, fun k hk => ?_⟩
    · show (if d = d then s2 d ++ [D.tup [.str n, .tup (s2 (d + 1)).reverse]] else _) = st d ++ (D.tup [.str n, .tup (encF p)] :: encF r).reverse
      rw [if_pos rfl, b3 d (by omega), a1, b1, List.reverse_reverse, List.reverse_cons, List.append_assoc]
    · show (if k = d then _ else if k = d + 1 then [] else s2 k) = []
      rw [if_neg (by omega)]
      split
      · rfl
      · exact b2 k (by omega)
    · show (if k = d then _ else if k = d + 1 then [] else s2 k) = st k
      rw [if_neg (by omega), if_neg (by omega), b3 k (by omega), a3 k hk]
theorem trees_nodes (f : Fo) : treesD (nodes 1 f) = encF f := by
  unfold treesD
  rw [(fold_nodes f 1 (fun _ => []) fun _ _ => rfl).1, List.nil_append, List.reverse_reverse]
/-! rows that are those of a forest -/
def Okr : Int → List (Int × Str) → Prop
  | _, [] => True
  | d, q :: rows => 1 ≤ q.1 ∧ q.1 ≤ d + 1 ∧ Okr q.1 rows
theorem okr_nodes : ∀ (f : Fo) (d e : Int) (rest : List (Int × Str)), 1 ≤ d → d ≤ e + 1 → (∀ e', d - 1 ≤ e' → Okr e' rest) → Okr e (nodes d f ++ rest)
  | .nil, d, e, rest, _, h, hr => hr e (by omega)
  | .cons n p r, d, e, rest, h1, h, hr => by
    show 1 ≤ d ∧ d ≤ e + 1 ∧ Okr d ((nodes (d + 1) p ++ nodes d r) ++ rest)
    refine ⟨h1, h, ?_⟩
    rw [List.append_assoc]
    exact okr_nodes p (d + 1) d _ (by omega) (by omega) fun e' he => okr_nodes r d e' rest h1 (by omega) hr
theorem nodes_okr (f : Fo) : Okr 0 (nodes 1 f) := by
  have := okr_nodes f 1 0 [] (by omega) (by omega) fun _ _ => trivial
  rwa [List.append_nil] at this
/-- the first depth is less -/
def Fst (m : Int) : List (Int × Str) → Prop
  | [] => True
  | q :: _ => q.1 ≤ m
def OkF : List (Int × Str) → Prop
  | [] => True
  | q :: rows => 1 ≤ q.1 ∧ Okr q.1 rows
theorem okr_okf {e : Int} {rows : List (Int × Str)} (h : Okr e rows) : OkF rows ∧ Fst (e + 1) rows := by
  cases rows with
  | nil => exact ⟨trivial, trivial⟩
  | cons q rows => exact ⟨⟨h.1, h.2.2⟩, h.2.1⟩
theorem parse : ∀ (n : Nat) (rows : List (Int × Str)) (d : Int), rows.length ≤ n → OkF rows → Fst d rows → ∃ f rest, rows = nodes d f ++ rest ∧ OkF rest ∧ Fst (d - 1) rest
  | _, [], d, _, _, _ => ⟨.nil, [], rfl, trivial, trivial⟩
  | 0, q :: rows, d, hl, _, _ => absurd hl (by simp)
  | n + 1, q :: rows, d, hl, h1, h2 => by
    have h2 : q.1 ≤ d := h2
    by_cases c : q.1 = d
    · rw [List.length_cons] at hl
      obtain ⟨a1, a2⟩ := okr_okf h1.2
      rw [c] at a2
      obtain ⟨p, r1, e1, b1, b2⟩ := parse n rows (d + 1) (by omega) a1 a2
      have l1 : r1.length ≤ n := by
        have := congrArg List.length e1
        rw [List.length_append] at this; omega
      obtain ⟨f, r2, e2', c1, c2⟩ := parse n r1 d l1 b1 (by rw [show d + 1 - 1 = d by omega] at b2; exact b2)
      refine ⟨.cons q.2 p f, r2, ?_, c1, c2⟩
      show q :: rows = (d, q.2) :: (nodes (d + 1) p ++ nodes d f) ++ r2
      rw [e1, e2', ← c]
      simp
    · exact ⟨.nil, q :: rows, rfl, h1, by show q.1 ≤ d - 1; omega⟩
/-- rows that are told well are those of a forest -/
theorem fo_of {rows : List (Int × Str)} (h : Okr 0 rows) : ∃ f, rows = nodes 1 f := by
  obtain ⟨a1, a2⟩ := okr_okf h
  obtain ⟨f, rest, e, b1, b2⟩ := parse rows.length rows 1 (Nat.le_refl _) a1 a2
  cases rest with
  | nil => rw [List.append_nil] at e; exact ⟨f, e⟩
  | cons q r =>
    have x : q.1 ≤ 1 - 1 := b2
    have := b1.1
    omega
end Pk
end
section
set_option Elab.async false
set_option linter.all false
set_option maxRecDepth 1000000
set_option maxHeartbeats 1000000
/-! the nodes of trees -/
namespace Pk
open PySem DL L2
def kids : Int → Fo → List (Int × Str × Fo)
  | _, .nil => []
  | d, .cons n p r => (d, n, p) :: kids d r
def encK (q : Int × Str × Fo) : D := .tup [.int q.1, .tup [.str q.2.1, .tup (encF q.2.2)]]
def outK (q : Int × Str × Fo) : List (Int × Str) := (q.1, q.2.1) :: nodes (q.1 + 1) q.2.2
theorem kids_enc : ∀ (f : Fo) (d : Int), (kids d f).map encK = (encF f).map fun x => .tup [.int d, x]
  | .nil, _ => rfl
  | .cons n p r, d => by
    show encK (d, n, p) :: (kids d r).map encK = .tup [.int d, .tup [.str n, .tup (encF p)]] :: (encF r).map _
    rw [kids_enc r]; rfl
theorem kids_out : ∀ (f : Fo) (d : Int), (kids d f).flatMap outK = nodes d f
  | .nil, _ => rfl
  | .cons n p r, d => by
    show outK (d, n, p) ++ (kids d r).flatMap outK = _
    rw [kids_out r]; rfl
theorem enc_len : ∀ f : Fo, (encF f).length ≤ f.size
  | .nil => Nat.le_refl _
  | .cons n p r => by
    have := enc_len r
    show (encF r).length + 1 ≤ p.size + r.size + 1
    omega
theorem kids_len (f : Fo) (d : Int) : (kids d f).length = (encF f).length := by
  have := congrArg List.length (kids_enc f d)
  rw [List.length_map, List.length_map] at this; exact this
abbrev kidsS : SA := aLc (.nm 5) [5] (aIt (c2 ixO (cVw 3) (cC (.int 1)))) tYes (cTup (aC (c2 addO (cVar 4) (cC (.int 1))) (aC (cVar 5) aN)))
theorem kidsS_is {t0 : D} {F S : List D} {w5 : Sl} (d : Int) (n : Str) (p : Fo) (hl : p.size ≤ 90000) : kidsS [.v t0, .o (.lst F), .o (.lst S), .v (.tup [.str n, .tup (encF p)]), .v (.int d), w5] = .ret ((kids (d + 1) p).map encK) := by
  show (if (encF p).length ≤ lim then lcP (.nm 5) tYes (cTup (aC (c2 addO (cVar 4) (cC (.int 1))) (aC (cVar 5) aN))) [.v t0, .o (.lst F), .o (.lst S), .v (.tup [.str n, .tup (encF p)]), .v (.int d), .e] (encF p) else .fail) = _
  rw [if_pos (lim_le (Nat.le_trans (enc_len p) (by omega)))]
  have q := lcP_plain (tg := .nm 5) (t := tYes) (el := cTup (aC (c2 addO (cVar 4) (cC (.int 1))) (aC (cVar 5) aN))) (Δ := [.v t0, .o (.lst F), .o (.lst S), .v (.tup [.str n, .tup (encF p)]), .v (.int d), .e]) (fun x : D => x) (fun _ => true) (fun x => .tup [.int (d + 1), x]) (encF p) fun x _ => ⟨_, rfl, rfl, fun _ => by
    show (if [D.int (d + 1), x].length ≤ lim then Pg.ret (D.tup [.int (d + 1), x]) else .fail) = _
    rw [if_pos (lim_le (by show 2 ≤ 100000; decide))]⟩
  rw [List.map_id'] at q
  rw [q, List.filter_eq_self.mpr fun _ _ => rfl, kids_enc]
abbrev nodeS : ST := DL.tSeq (tAsg (.tp [.nm 4, .nm 3]) (xPop0 2)) (DL.tSeq (tX (xApp 1 (xE (cTup (aC (cVar 4) (aC (c2 ixO (cVw 3) (cC (.int 0))) aN)))))) (tX (xExt 2 (cL (aRev (cL kidsS))))))
theorem node_is {t0 : D} {F : List D} {S : List D} {w3 w4 w5 : Sl} (d : Int) (n : Str) (p : Fo) (hl : p.size ≤ 90000) (hF : F.length < 90000) (hS : S.length + p.size ≤ 90000) :
    nodeS [.v t0, .o (.lst F), .o (.lst (S ++ [encK (d, n, p)])), w3, w4, w5] = .ret (.nx [.v t0, .o (.lst (F ++ [.tup [.int d, .str n]])), .o (.lst (S ++ ((kids (d + 1) p).reverse.map encK))), .v (.tup [.str n, .tup (encF p)]), .v (.int d), w5]) := by
  have e1 : tAsg (.tp [.nm 4, .nm 3]) (xPop0 2) [.v t0, .o (.lst F), .o (.lst (S ++ [encK (d, n, p)])), w3, w4, w5] = .ret (.nx [.v t0, .o (.lst F), .o (.lst S), .v (.tup [.str n, .tup (encF p)]), .v (.int d), w5]) := by
    show (((ofO ((S ++ [encK (d, n, p)])[(S ++ [encK (d, n, p)]).length - 1]?)).bind fun r => Pg.ret (r, [Sl.v t0, .o (.lst F), .o (.lst (S ++ [encK (d, n, p)]).dropLast), w3, w4, w5])).bind fun r => (ofO (tgS (.tp [.nm 4, .nm 3]) r.1 r.2)).bind fun Δ1 => .ret (Out.nx Δ1)) = _
    have g : (S ++ [encK (d, n, p)])[(S ++ [encK (d, n, p)]).length - 1]? = some (encK (d, n, p)) := by
      rw [List.length_append, List.length_singleton, Nat.add_sub_cancel, List.getElem?_append_right (Nat.le_refl _), Nat.sub_self]; rfl
    rw [g, List.dropLast_concat]; rfl
  have e2 : tX (xApp 1 (xE (cTup (aC (cVar 4) (aC (c2 ixO (cVw 3) (cC (.int 0))) aN))))) [.v t0, .o (.lst F), .o (.lst S), .v (.tup [.str n, .tup (encF p)]), .v (.int d), w5] = .ret (.nx [.v t0, .o (.lst (F ++ [.tup [.int d, .str n]])), .o (.lst S), .v (.tup [.str n, .tup (encF p)]), .v (.int d), w5]) := by
    have c : (cTup (aC (cVar 4) (aC (c2 ixO (cVw 3) (cC (.int 0))) aN))) [.v t0, .o (.lst F), .o (.lst S), .v (.tup [.str n, .tup (encF p)]), .v (.int d), w5] = .ret (.tup [.int d, .str n]) := by
      show (if [D.int d, .str n].length ≤ lim then Pg.ret (D.tup [.int d, .str n]) else .fail) = _
      rw [if_pos (lim_le (by show 2 ≤ 100000; decide))]
    show ((((cTup (aC (cVar 4) (aC (c2 ixO (cVw 3) (cC (.int 0))) aN))) [.v t0, .o (.lst F), .o (.lst S), .v (.tup [.str n, .tup (encF p)]), .v (.int d), w5]).bind fun d' => Pg.ret (d', [Sl.v t0, .o (.lst F), .o (.lst S), .v (.tup [.str n, .tup (encF p)]), .v (.int d), w5])).bind fun r => (ofO (ownL r.2 1)).bind fun ds => if ds.length < lim then .ret (D.non, r.2.set 1 (.o (.lst (ds ++ [r.1])))) else .fail).bind (fun r => .ret (Out.nx r.2)) = _
    rw [c]
    show ((if F.length < lim then Pg.ret (D.non, [Sl.v t0, .o (.lst (F ++ [.tup [.int d, .str n]])), .o (.lst S), .v (.tup [.str n, .tup (encF p)]), .v (.int d), w5]) else .fail).bind fun r => .ret (Out.nx r.2)) = _
    rw [if_pos (lim_lt (by omega))]; rfl
  have e3 : tX (xExt 2 (cL (aRev (cL kidsS)))) [.v t0, .o (.lst (F ++ [.tup [.int d, .str n]])), .o (.lst S), .v (.tup [.str n, .tup (encF p)]), .v (.int d), w5] = .ret (.nx [.v t0, .o (.lst (F ++ [.tup [.int d, .str n]])), .o (.lst (S ++ ((kids (d + 1) p).reverse.map encK))), .v (.tup [.str n, .tup (encF p)]), .v (.int d), w5]) := by
    show (((((kidsS [.v t0, .o (.lst (F ++ [.tup [.int d, .str n]])), .o (.lst S), .v (.tup [.str n, .tup (encF p)]), .v (.int d), w5]).bind fun ds => Pg.ret (D.lst ds)).bind fun d => (ofO (lsV d)).bind fun ds => Pg.ret ds.reverse).bind fun ds => Pg.ret (D.lst ds)).bind fun y => (ofO (lstV y)).bind fun zs => if S.length + zs.length ≤ lim then Pg.ret (D.non, [Sl.v t0, .o (.lst (F ++ [.tup [.int d, .str n]])), .o (.lst (S ++ zs)), .v (.tup [.str n, .tup (encF p)]), .v (.int d), w5]) else .fail).bind (fun r => .ret (Out.nx r.2)) = _
    rw [kidsS_is d n p hl]
    show ((if S.length + ((kids (d + 1) p).map encK).reverse.length ≤ lim then Pg.ret (D.non, [Sl.v t0, .o (.lst (F ++ [.tup [.int d, .str n]])), .o (.lst (S ++ ((kids (d + 1) p).map encK).reverse)), .v (.tup [.str n, .tup (encF p)]), .v (.int d), w5]) else .fail).bind fun r => .ret (Out.nx r.2)) = _
    rw [if_pos (lim_le (by rw [List.length_reverse, List.length_map, kids_len]; have := enc_len p; omega)), ← List.map_reverse]; rfl
  show ((tAsg (.tp [.nm 4, .nm 3]) (xPop0 2) [.v t0, .o (.lst F), .o (.lst (S ++ [encK (d, n, p)])), w3, w4, w5]).bind fun o => match o with | .nx Δ => (DL.tSeq (tX (xApp 1 (xE (cTup (aC (cVar 4) (aC (c2 ixO (cVw 3) (cC (.int 0))) aN)))))) (tX (xExt 2 (cL (aRev (cL kidsS)))))) Δ | o => .ret o) = _
  rw [e1, bind_ret]
  show ((tX (xApp 1 (xE (cTup (aC (cVar 4) (aC (c2 ixO (cVw 3) (cC (.int 0))) aN))))) [.v t0, .o (.lst F), .o (.lst S), .v (.tup [.str n, .tup (encF p)]), .v (.int d), w5]).bind fun o => match o with | .nx Δ => tX (xExt 2 (cL (aRev (cL kidsS)))) Δ | o => .ret o) = _
  rw [e2, bind_ret]
  exact e3
def sizeK (S : List (Int × Str × Fo)) : Nat := (S.map fun q => q.2.2.size + 1).sum
theorem size_app (S T : List (Int × Str × Fo)) : sizeK (S ++ T) = sizeK S + sizeK T := by
  unfold sizeK; rw [List.map_append, List.sum_append]
theorem size_kids : ∀ (f : Fo) (d : Int), sizeK (kids d f) = f.size
  | .nil, _ => rfl
  | .cons n p r, d => by
    show (p.size + 1) + sizeK (kids d r) = p.size + r.size + 1
    rw [size_kids r]; omega
theorem size_rev (S : List (Int × Str × Fo)) : sizeK S.reverse = sizeK S := by
  unfold sizeK; rw [List.map_reverse, List.sum_reverse]
theorem len_size : ∀ S : List (Int × Str × Fo), S.length ≤ sizeK S
  | [] => Nat.le_refl _
  | q :: S => by
    have := len_size S
    show S.length + 1 ≤ (q.2.2.size + 1) + sizeK S
    omega
abbrev testS : SB := tB (c2 (coO2 .Gt) (c1 lenO' (cVw 2)) (cC (.int 0)))
theorem test_is {t0 : D} {F S : List D} {w3 w4 w5 : Sl} : testS [.v t0, .o (.lst F), .o (.lst S), w3, w4, w5] = .ret (decide (0 < S.length)) := by
  show Pg.ret (decide ((0 : Int) < (S.length : Int))) = _
  congr 1
  exact decide_eq_decide.mpr ⟨fun h => by omega, fun h => by omega⟩
/-- the walk over a stack of trees -/
theorem walk_is {t0 : D} : ∀ (m : Nat) (S : List (Int × Str × Fo)) (F : List D) (w3 w4 w5 : Sl), sizeK S < m → F.length + sizeK S ≤ 80000 →
    ∃ v3 v4, whP testS nodeS m [.v t0, .o (.lst F), .o (.lst (S.map encK)), w3, w4, w5] = .ret (.nx [.v t0, .o (.lst (F ++ (S.reverse.flatMap outK).map (e2 eI eS))), .o (.lst []), v3, v4, w5])
  | 0, S, F, w3, w4, w5, h, _ => absurd h (Nat.not_lt_zero _)
  | m + 1, S, F, w3, w4, w5, h, hl => by
    have un : ∀ Δ, whP testS nodeS (m + 1) Δ = (testS Δ).bind fun c => if c = true then (nodeS Δ).bind fun o => match o with
      | .nx Δ2 => whP testS nodeS m Δ2
      | .ct Δ2 => whP testS nodeS m Δ2
      | .bk Δ2 => .ret (.nx Δ2)
      | .rt d => .ret (.rt d) else .ret (.nx Δ) := fun _ => rfl
    rw [un, test_is, bind_ret]
    by_cases e : S = []
    · subst e
      refine ⟨w3, w4, ?_⟩
      show Pg.ret (Out.nx [.v t0, .o (.lst F), .o (.lst []), w3, w4, w5]) = Pg.ret (Out.nx [.v t0, .o (.lst (F ++ [])), .o (.lst []), w3, w4, w5])
      rw [List.append_nil]
    · obtain ⟨T, q, rfl⟩ : ∃ T q, S = T ++ [q] := ⟨S.dropLast, S.getLast e, (List.dropLast_concat_getLast e).symm⟩
      obtain ⟨d, n, p⟩ := q
      have sz : sizeK (T ++ [(d, n, p)]) = sizeK T + (p.size + 1) := by rw [size_app]; rfl
      rw [sz] at h hl
      have lT := len_size T
      rw [if_pos (decide_eq_true (by rw [List.length_map, List.length_append, List.length_singleton]; omega)), List.map_append, List.map_singleton]
      rw [node_is (t0 := t0) (F := F) (S := T.map encK) (w3 := w3) (w4 := w4) (w5 := w5) d n p (by omega) (by omega) (by rw [List.length_map]; omega), bind_ret]
      obtain ⟨v3, v4, r⟩ := walk_is (t0 := t0) m (T ++ (kids (d + 1) p).reverse) (F ++ [.tup [.int d, .str n]]) (.v (.tup [.str n, .tup (encF p)])) (.v (.int d)) w5 (by rw [size_app, size_rev, size_kids]; omega) (by rw [size_app, size_rev, size_kids, List.length_append, List.length_singleton]; omega)
      refine ⟨v3, v4, ?_⟩
      rw [List.map_append] at r
      show whP testS nodeS m _ = _
      rw [r, List.reverse_append, List.reverse_reverse, List.flatMap_append, kids_out, List.reverse_append, List.reverse_singleton]
      congr 5
      refine congrArg MO.lst ?_
      show (F ++ [D.tup [.int d, .str n]]) ++ (nodes (d + 1) p ++ T.reverse.flatMap outK).map (e2 eI eS) = F ++ (((d, n) :: nodes (d + 1) p) ++ T.reverse.flatMap outK).map (e2 eI eS)
      rw [List.append_assoc]; rfl
/-- the nodes of the trees of a forest -/
theorem nodes_of_is {f : Fo} (hl : f.size ≤ 70000) : F_nodes_of [.tup (encF f)] = .ret (eT (e2 eI eS) (nodes 1 f)) := by
  have start : (aLc (.nm 3) [3] (aIt (cL (aRev (cL (aList (cVw 0)))))) tYes (cTup (aC (cC (.int 1)) (aC (cVar 3) aN)))) [.v (.tup (encF f)), .o (.lst []), .e, .e, .e, .e] = .ret ((kids 1 f).reverse.map encK) := by
    show (if (encF f).reverse.length ≤ lim then lcP (.nm 3) tYes (cTup (aC (cC (.int 1)) (aC (cVar 3) aN))) [.v (.tup (encF f)), .o (.lst []), .e, .e, .e, .e] (encF f).reverse else .fail) = _
    rw [if_pos (lim_le (by rw [List.length_reverse]; exact Nat.le_trans (enc_len f) (by omega)))]
    have q := lcP_plain (tg := .nm 3) (t := tYes) (el := cTup (aC (cC (.int 1)) (aC (cVar 3) aN))) (Δ := [.v (.tup (encF f)), .o (.lst []), .e, .e, .e, .e]) (fun x : D => x) (fun _ => true) (fun x => .tup [.int 1, x]) (encF f).reverse fun x _ => ⟨_, rfl, rfl, fun _ => by
      show (if [D.int 1, x].length ≤ lim then Pg.ret (D.tup [.int 1, x]) else .fail) = _
      rw [if_pos (lim_le (by show 2 ≤ 100000; decide))]⟩
    rw [List.map_id'] at q
    rw [q, List.filter_eq_self.mpr fun _ _ => rfl, List.map_reverse, List.map_reverse, kids_enc]
  obtain ⟨v3, v4, w⟩ := walk_is (t0 := .tup (encF f)) 1000000 (kids 1 f).reverse [] .e .e .e (by rw [size_rev, size_kids]; omega) (by rw [size_rev, size_kids]; show 0 + _ ≤ _; omega)
  rw [List.reverse_reverse, kids_out, List.nil_append] at w
  have b : B_nodes_of [.v (.tup (encF f)), .e, .e, .e, .e, .e] = .ret (.rt (eT (e2 eI eS) (nodes 1 f))) := by
    show ((((aLc (.nm 3) [3] (aIt (cL (aRev (cL (aList (cVw 0)))))) tYes (cTup (aC (cC (.int 1)) (aC (cVar 3) aN)))) [.v (.tup (encF f)), .o (.lst []), .e, .e, .e, .e]).bind fun ds => Pg.ret (Sl.o (.lst ds))).bind fun sl => Pg.ret (Out.nx [.v (.tup (encF f)), .o (.lst []), sl, .e, .e, .e])).bind (fun o => match o with
      | .nx Δ => (whP testS nodeS 1000000 Δ).bind fun o => match o with
        | .nx Δ => (tFrz 1 (tRet (c1 tupO (cVw 1)))) Δ
        | o => .ret o
      | o => .ret o) = _
    rw [start]
    show ((whP testS nodeS 1000000 [.v (.tup (encF f)), .o (.lst []), .o (.lst ((kids 1 f).reverse.map encK)), .e, .e, .e]).bind fun o => match o with
        | .nx Δ => (tFrz 1 (tRet (c1 tupO (cVw 1)))) Δ
        | o => .ret o) = _
    rw [w]; rfl
  show ((B_nodes_of [.v (.tup (encF f)), .e, .e, .e, .e, .e]).bind fun o => match o with
    | .nx _ => .ret .non
    | .rt d => .ret d
    | _ => .fail) = _
  rw [b]; rfl
end Pk
end
section
set_option Elab.async false
set_option linter.all false
/-! two at once, drawn -/
namespace DL
open PySem L2
theorem m_par {ρ : Type} {Δ : List Sl} {s t : SE} {i j : Nat} {y : Pg ρ} {G : Out → Pg ρ} (h : Ref y ((s Δ).bind fun d => (t Δ).bind fun c => G (.nx ((Δ.set i (.v d)).set j (.v c))))) : Ref y ((tPar i j (oV s) (oV t) Δ).bind G) := by
  have e : (tPar i j (oV s) (oV t) Δ).bind G = (s Δ).bind fun d => (t Δ).bind fun c => G (.nx ((Δ.set i (.v d)).set j (.v c))) := by
    show (((s Δ).bind fun d => .ret (Sl.v d)).bind fun d => ((t Δ).bind fun c => .ret (Sl.v c)).bind fun c => .ret (.nx ((Δ.set i d).set j c))).bind G = _
    rw [bind_assoc, bind_assoc]
    congr 1
    funext d
    rw [bind_ret, bind_assoc, bind_assoc]
    rfl
  rw [e]; exact h
end DL
end
section
set_option Elab.async false
set_option linter.all false
set_option maxRecDepth 100000
/-! TYi: typed readings, more: coercions, classes, loops that return early -/
namespace DL
open PySem L2
instance : Inhabited D := ⟨.non⟩
/-! ### what a datum is read as -/
def isE {α : Type} (e : α → D) (d : D) : Prop := ∃ a, e a = d
open Classical in
noncomputable def un {α : Type} [Inhabited α] (e : α → D) (d : D) : α := if h : ∃ a, e a = d then h.choose else default
class Inj {α : Type} (e : α → D) : Prop where
  inj : ∀ a b, e a = e b → a = b
/-- never None -/
class NonN {α : Type} (e : α → D) : Prop where
  nn : ∀ a, e a ≠ .non
section
variable {α β γ : Type} {e : α → D} {f : α → D} {g : β → D} {k : γ → D}
theorem un_of [Inhabited α] {d : D} (h : isE e d) : e (un e d) = d := by
  have h' : ∃ a, e a = d := h
  unfold un
  rw [dif_pos h']
  exact h'.choose_spec
@[simp] theorem un_e [Inhabited α] [i : Inj e] (a : α) : un e (e a) = a := i.inj _ _ (un_of ⟨a, rfl⟩)
instance : Inj eI := ⟨fun a b h => by cases h; rfl⟩
instance : Inj eB := ⟨fun a b h => by cases h; rfl⟩
instance : Inj eS := ⟨fun a b h => by cases h; rfl⟩
theorem map_inj [i : Inj f] : ∀ {xs ys : List α}, xs.map f = ys.map f → xs = ys
  | [], [], _ => rfl
  | [], _ :: _, h => by cases h
  | _ :: _, [], h => by cases h
  | x :: xs, y :: ys, h => by
    rw [List.map_cons, List.map_cons] at h
    injection h with h1 h2
    rw [i.inj _ _ h1, map_inj h2]
instance [Inj f] : Inj (eT f) := ⟨fun a b h => by unfold eT at h; injection h with h; exact map_inj h⟩
instance [Inj f] : Inj (eL f) := ⟨fun a b h => by unfold eL at h; injection h with h; exact map_inj h⟩
instance [i : Inj f] [j : Inj g] : Inj (e2 f g) := ⟨fun a b h => by
  obtain ⟨a1, a2⟩ := a
  obtain ⟨b1, b2⟩ := b
  unfold e2 at h
  injection h with h
  injection h with h1 h2
  injection h2 with h2
  exact Prod.ext (i.inj _ _ h1) (j.inj _ _ h2)⟩
instance [i : Inj f] [j : Inj g] [l : Inj k] : Inj (e3 f g k) := ⟨fun a b h => by
  obtain ⟨a1, a2, a3⟩ := a
  obtain ⟨b1, b2, b3⟩ := b
  unfold e3 at h
  injection h with h
  injection h with h1 h2
  injection h2 with h2 h3
  injection h3 with h3
  exact Prod.ext (i.inj _ _ h1) (Prod.ext (j.inj _ _ h2) (l.inj _ _ h3))⟩
instance : NonN eI := ⟨fun a h => nomatch h⟩
instance : NonN eS := ⟨fun a h => nomatch h⟩
instance : NonN eB := ⟨fun a h => nomatch h⟩
instance : NonN (eT f) := ⟨fun a h => nomatch h⟩
instance : NonN (eL f) := ⟨fun a h => nomatch h⟩
instance : NonN (e2 f g) := ⟨fun a h => nomatch h⟩
instance : NonN (e3 f g k) := ⟨fun a h => nomatch h⟩
instance [i : Inj f] [n : NonN f] : Inj (eO f) := ⟨fun a b h => by
  cases a with
  | none => cases b with
    | none => rfl
    | some y => exact absurd (show f y = .non from h.symm) (n.nn y)
  | some x => cases b with
    | none => exact absurd (show f x = .non from h) (n.nn x)
    | some y => rw [i.inj x y h]⟩
end
section
variable {Δ : List Sl} {s t r : SE} {i j : Nat} {d e c : D} {ds es : List D} {A : SA} {T U : SB} {α β δ : Type} {f : α → D} {g : β → D} {xs ys : List α}
theorem o_ltI2 {a b : Int} : coO2 .Lt (.int a) (.int b) = some (.bl (decide (a < b))) := rfl
theorem o_gtI2 {a b : Int} : coO2 .Gt (.int a) (.int b) = some (.bl (decide (b < a))) := rfl
/-! in -/
/-! args -/
def p2l (p : Str × Str) : List Str := [p.1, p.2]
def l2p (l : List Str) : Str × Str := (l.headD "", (l.drop 1).headD "")
def ssP (xs : List (Str × Str)) : List (Str × Str) := (ssX (xs.map p2l)).map l2p
/-! classes -/
theorem q_mk {c : Nat} {F : List D → Pg D} {ad : List D} (ha : A Δ = .ret ds) (hF : F (ds ++ ad) = .ret d) (hc : isC c d = true) : cMk c F A ad Δ = .ret d := by
  show (A Δ).bind _ = _
  rw [ha, bind_ret]
  unfold mkP
  rw [hF, bind_ret, if_pos hc]
theorem q_ch {op op' : CmpOp} {x y z : D} {b c : Bool} (h1 : s Δ = .ret x) (h2 : t Δ = .ret y) (h3 : r Δ = .ret z) (o1 : coO op x y = some (.bl b)) (o2 : coO op' y z = some (.bl c)) : cCh op op' s t r Δ = .ret (.bl (b && c)) := by
  show (s Δ).bind _ = _
  rw [h1, bind_ret, h2, bind_ret, o1]
  show (if b = true then _ else _) = _
  cases b with
  | true =>
    rw [if_pos rfl, h3, bind_ret, o2]; rfl
  | false => rfl
end
/-! ### statements: Q v of what comes out -/
section
variable {Δ Δ1 : List Sl} {s : SE} {i : Nat} {d : D} {ds : List D} {A : SA} {T : SB} {α β σ ρ : Type} {f : β → D} {S S1 S2 S3 : ST} {Q : ρ → Pg Out → Prop} {v w : ρ}
def RetQ (f : β → D) (v : β) (p : Pg Out) : Prop := p = .ret (.rt (f v))
def RefN (I : σ → List Sl → Prop) (z : σ) (p : Pg Out) : Prop := ∃ Δ', (p = .ret (.nx Δ') ∨ p = .ret (.ct Δ')) ∧ I z Δ'
def RefB (I : σ → List Sl → Prop) (f : β → D) (r : σ ⊕ β) (p : Pg Out) : Prop := match r with
  | .inl z => RefN I z p
  | .inr b => p = .ret (.rt (f b))
theorem y_ret (hs : s Δ = .ret d) (h : Q v (.ret (.rt d))) : Q v (DL.tRet s Δ) := by rw [z_ret hs]; exact h
theorem y_nx (hs : S Δ = .ret (.nx Δ1)) (h : Q v (.ret (.nx Δ1))) : Q v (S Δ) := by rw [hs]; exact h
theorem y_seq (h1 : S1 Δ = .ret (.nx Δ1)) (h2 : Q v (S2 Δ1)) : Q v (DL.tSeq S1 S2 Δ) := by
  rw [z_seq h1 rfl]; exact h2
theorem y_seqret (hs : s Δ = .ret d) (h : Q v (.ret (.rt d))) : Q v (DL.tSeq (DL.tRet s) S2 Δ) := by
  rw [z_seqr (z_ret hs)]; exact h
theorem y_seqif {b : Bool} (ht : T Δ = .ret b) (h1 : b = true → Q v (DL.tSeq S1 S Δ)) (h2 : b = false → Q w (DL.tSeq S2 S Δ)) : Q (if b = true then v else w) (DL.tSeq (DL.tIf T S1 S2) S Δ) := by
  have e : DL.tSeq (DL.tIf T S1 S2) S Δ = if b = true then DL.tSeq S1 S Δ else DL.tSeq S2 S Δ := by
    show ((T Δ).bind _).bind _ = _
    rw [ht]
    cases b <;> rfl
  rw [e]
  cases b with
  | true => exact h1 rfl
  | false => exact h2 rfl
theorem y_seqnil (h : Q v (S Δ)) : Q v (DL.tSeq DL.tNil S Δ) := h
/-! loops -/
def foldOk (step : σ → α → σ) (vc : σ → α → Prop) : List α → σ → Prop
  | [], _ => True
  | x :: xs, z => vc z x ∧ foldOk step vc xs (step z x)
def loopP (step : σ → α → σ ⊕ β) : List α → σ → σ ⊕ β
  | [], z => .inl z
  | x :: xs, z => match step z x with
    | .inl z' => loopP step xs z'
    | .inr r => .inr r
def loopOk (step : σ → α → σ ⊕ β) (vc : σ → α → Prop) : List α → σ → Prop
  | [], _ => True
  | x :: xs, z => vc z x ∧ ∀ z', step z x = .inl z' → loopOk step vc xs z'
theorem forP_cons {tg : Tg} {body : ST} {d : D} {ds : List D} : forP tg body (d :: ds) Δ = (((ofO (tgS tg d Δ)).bind body).bind fun o => match o with
      | .nx Δ2 => forP tg body ds Δ2
      | .ct Δ2 => forP tg body ds Δ2
      | .bk Δ2 => .ret (.nx Δ2)
      | .rt d => .ret (.rt d)) := by rw [bind_assoc]; rfl
theorem fold_run {tg : Tg} {body : ST} {e : α → D} {I : σ → List Sl → Prop} {step : σ → α → σ} {vc : σ → α → Prop} (hb : ∀ z x Δ, I z Δ → vc z x → RefN I (step z x) ((ofO (tgS tg (e x) Δ)).bind body)) : ∀ (xs : List α) (z : σ) (Δ : List Sl), I z Δ → foldOk step vc xs z → ∃ Δ', forP tg body (xs.map e) Δ = .ret (.nx Δ') ∧ I (xs.foldl step z) Δ'
  | [], z, Δ, hI, _ => ⟨Δ, rfl, hI⟩
  | x :: xs, z, Δ, hI, hv => by
    obtain ⟨Δ1, h1, h2⟩ := hb z x Δ hI hv.1
    obtain ⟨Δ2, h3, h4⟩ := fold_run hb xs (step z x) Δ1 h2 hv.2
    refine ⟨Δ2, ?_, h4⟩
    rw [List.map_cons, forP_cons]
    rcases h1 with h1 | h1 <;> rw [h1] <;> exact h3
theorem loop_run {tg : Tg} {body : ST} {e : α → D} {I : σ → List Sl → Prop} {step : σ → α → σ ⊕ β} {vc : σ → α → Prop} (hb : ∀ z x Δ, I z Δ → vc z x → RefB I f (step z x) ((ofO (tgS tg (e x) Δ)).bind body)) : ∀ (xs : List α) (z : σ) (Δ : List Sl), I z Δ → loopOk step vc xs z → (∃ z' Δ', loopP step xs z = .inl z' ∧ forP tg body (xs.map e) Δ = .ret (.nx Δ') ∧ I z' Δ') ∨ ∃ b, loopP step xs z = .inr b ∧ forP tg body (xs.map e) Δ = .ret (.rt (f b))
  | [], z, Δ, hI, _ => .inl ⟨z, Δ, rfl, rfl, hI⟩
  | x :: xs, z, Δ, hI, hv => by
    have h := hb z x Δ hI hv.1
    have hv2 := hv.2
    unfold loopP
    cases q : step z x with
    | inl z' =>
      rw [q] at h
      obtain ⟨Δ1, h1, h2⟩ := h
      have r := loop_run hb xs z' Δ1 h2 (hv2 z' q)
      rw [List.map_cons, forP_cons]
      rcases h1 with h1 | h1 <;> rw [h1] <;> exact r
    | inr b =>
      rw [q] at h
      refine .inr ⟨b, rfl, ?_⟩
      rw [List.map_cons, forP_cons, (show _ = _ from h)]
      rfl
theorem y_tg {tg : Tg} {body : ST} {d : D} (h : tgS tg d Δ = some Δ1) (hq : Q v (body Δ1)) : Q v ((ofO (tgS tg d Δ)).bind body) := by
  rw [h]; exact hq
theorem tFor_at {tg : Tg} {body : ST} (hi : A Δ = .ret ds) : DL.tFor tg A body Δ = forP tg body ds Δ := by
  show (A Δ).bind _ = _
  rw [hi]; rfl
theorem y_for {tg : Tg} {body : ST} {e : α → D} {I : σ → List Sl → Prop} {step : σ → α → σ} {vc : σ → α → Prop} {xs : List α} {z : σ} (hb : ∀ z x Δ, I z Δ → vc z x → RefN I (step z x) ((ofO (tgS tg (e x) Δ)).bind body)) (hi : A Δ = .ret (xs.map e)) (hI : I z Δ) (hv : foldOk step vc xs z) (h : ∀ Δ1, I (xs.foldl step z) Δ1 → Q v (S Δ1)) : Q v (DL.tSeq (DL.tFor tg A body) S Δ) := by
  obtain ⟨Δ1, h1, h2⟩ := fold_run hb xs z Δ hI hv
  exact y_seq ((tFor_at hi).trans h1) (h Δ1 h2)
end
section
variable {ρ τ : Type} {Δ : List Sl} {s t : SE} {A B : SA} {i j : Nat}
theorem m_tgB {tg : Tg} {body : ST} {d : D} {Δ1 : List Sl} {y : Pg ρ} {G : Out → Pg ρ} (h : tgS tg d Δ = some Δ1) (hg : Ref y ((body Δ1).bind G)) : Ref y (((ofO (tgS tg d Δ)).bind body).bind G) := by
  rw [h]; exact hg
end
end DL
end
section
set_option Elab.async false
set_option linter.all false
set_option maxRecDepth 1000000
set_option maxHeartbeats 1000000
/-! Forest: typed readings of its makers -/
namespace Pk
open PySem DL L2
/-- a Forest of the program: the pairs (depth, name) of its nodes -/
structure For where
  rows : List (Int × Str)
instance : Inhabited For := ⟨⟨[]⟩⟩
instance : Inhabited Fo := ⟨.nil⟩
def eFor (f : For) : D := .ins 4 ["own_rows"] [eT (e2 eI eS) f.rows]
/-- trees as they are handed about -/
def eFo (f : Fo) : D := .tup (encF f)
noncomputable def foOf (rows : List (Int × Str)) : Fo := open Classical in if h : Okr 0 rows then Classical.choose (fo_of h) else .nil
theorem fo_nodes {rows : List (Int × Str)} (h : Okr 0 rows) : nodes 1 (foOf rows) = rows := by
  unfold foOf
  rw [dif_pos h]
  exact (Classical.choose_spec (fo_of h)).symm
theorem fo_size {rows : List (Int × Str)} (h : Okr 0 rows) : (foOf rows).size = rows.length := by
  rw [← nodes_len (foOf rows) 1, fo_nodes h]
def okRows (rows : List (Int × Str)) : Prop := Okr 0 rows ∧ rows.length ≤ 60000
theorem i_trees_of (rows : List (Int × Str)) (h : okRows rows) : F_trees_of [eT (e2 eI eS) rows] = .ret (eFo (foOf rows)) := by
  rw [trees_of_is (by have := h.2; omega)]
  have e := trees_nodes (foOf rows)
  rw [fo_nodes h.1] at e
  rw [e]; rfl
theorem i_nodes_of (f : Fo) (h : f.size ≤ 60000) : F_nodes_of [eFo f] = .ret (eT (e2 eI eS) (nodes 1 f)) := nodes_of_is (by omega)
noncomputable def mkFor (f : Fo) : For := ⟨nodes 1 f⟩
def okFo (f : Fo) : Prop := f.size ≤ 60000
theorem i_For (f : Fo) (h : okFo f) : F_Forest___init__ [eFo f] = .ret (eFor (mkFor f)) := by
  have s2 := i_nodes_of f h
  show (B_Forest___init__ (startN 3 2 [eFo f])).bind _ = _
  unfold B_Forest___init__
  have s3 : (cCall F_nodes_of (aC (cVar 1) aN)) (startN 3 2 [eFo f]) = .ret (eT (e2 eI eS) (nodes 1 f)) := q_call (q_aC (q_var rfl) q_aN) s2
  show (((cCall F_nodes_of (aC (cVar 1) aN)) (startN 3 2 [eFo f])).bind _).bind _ = _
  rw [s3]
  rfl
end Pk
end
section
set_option Elab.async false
set_option linter.all false
set_option maxRecDepth 1000000
set_option maxHeartbeats 1000000
/-! the laws' own trees of rows -/
namespace Pg0
open PySem DL L2 Pk
abbrev rE (rows : List (Int × Str)) : D := eT (e2 eI eS) rows
def hgt : Fo → Nat
  | .nil => 0
  | .cons _ p r => max (hgt p + 1) (hgt r)
theorem nodes_deep : ∀ (f : Fo) (d : Int), ∀ q ∈ nodes d f, d ≤ q.1
  | .nil, d, q, h => nomatch h
  | .cons n p r, d, q, h => by
    rcases List.mem_cons.mp (show q ∈ (d, n) :: (nodes (d + 1) p ++ nodes d r) from h) with rfl | h
    · exact Int.le_refl _
    · rcases List.mem_append.mp h with h | h
      · have := nodes_deep p (d + 1) q h; omega
      · exact nodes_deep r d q h
theorem hgt_le : ∀ (f : Fo) (d D : Int), d ≤ D + 1 → (∀ q ∈ nodes d f, q.1 ≤ D) → (hgt f : Int) + d ≤ D + 1
  | .nil, d, D, h, _ => by show ((0 : Nat) : Int) + d ≤ _; omega
  | .cons n p r, d, D, h, hq => by
    have h0 : d ≤ D := hq (d, n) (List.mem_cons_self ..)
    have h1 := hgt_le p (d + 1) D (by omega) fun q hm => hq q (List.mem_cons_of_mem _ (List.mem_append_left _ hm))
    have h2 := hgt_le r d D h fun q hm => hq q (List.mem_cons_of_mem _ (List.mem_append_right _ hm))
    show ((max (hgt p + 1) (hgt r) : Nat) : Int) + d ≤ _
    omega
section
variable {rows : List (Int × Str)} {F : List D}
abbrev inT : SB := tAnd (tB (c2 (coO2 .Lt) (cVar 3) (c1 lenO' (cVw 0)))) (tB (c2 (coO2 .Gt) (c2 ixO (c2 ixO (cVw 0) (cVar 3)) (cC (.int 0))) (c2 ixO (c2 ixO (cVw 0) (cVar 2)) (cC (.int 0)))))
abbrev inB : ST := tSet 3 (oV (c2 addO (cVar 3) (cC (.int 1))))
abbrev stI (rows : List (Int × Str)) (F : List D) (k j : Nat) : List Sl := [.v (rE rows), .o (.lst F), .v (.int (k : Int)), .v (.int (j : Int))]
theorem at_row {j : Nat} {q : Int × Str} (h : rows[j]? = some q) : ixO (rE rows) (.int (j : Int)) = some (e2 eI eS q) := by
  have := o_ixTD (f := e2 eI eS) (xs := rows) (i := (j : Int)) (by rw [show atI rows (j : Int) = some q from L2.atI_nat h]; rfl)
  rw [this]
  unfold ixD
  rw [show atI rows (j : Int) = some q from L2.atI_nat h]; rfl
theorem in_test {k j : Nat} {p : Int × Str} (hk : rows[k]? = some p) : inT (stI rows F k j) = .ret (decide ((j : Int) < (rows.length : Int)) && decide (p.1 < (rows.getD j default).1)) := by
  refine q_tAnd (q_tB (q_2 (q_var rfl) (q_1 (q_vw rfl) o_lenT) o_ltI2)) fun e => ?_
  have hj : j < rows.length := by have := of_decide_eq_true e; omega
  have e1 := List.getElem?_eq_getElem hj
  have e2' : rows.getD j default = rows[j] := by rw [List.getD_eq_getElem?_getD, e1]; rfl
  rw [e2']
  exact q_tB (q_2 (q_2 (q_2 (q_vw rfl) (q_var rfl) (at_row e1)) q_C rfl) (q_2 (q_2 (q_vw rfl) (q_var rfl) (at_row hk)) q_C rfl) o_gtI2)
theorem whP_succ (T : SB) (S : ST) (m : Nat) (Δ : List Sl) : whP T S (m + 1) Δ = (T Δ).bind fun c => if c = true then (S Δ).bind fun o => match o with
      | .nx Δ2 => whP T S m Δ2
      | .ct Δ2 => whP T S m Δ2
      | .bk Δ2 => .ret (.nx Δ2)
      | .rt d => .ret (.rt d) else .ret (.nx Δ) := rfl
theorem in_loop {k : Nat} {p : Int × Str} (hk : rows[k]? = some p) : ∀ (t j m : Nat), j + t ≤ rows.length → (∀ i, j ≤ i → i < j + t → p.1 < (rows.getD i default).1) → (j + t = rows.length ∨ (rows.getD (j + t) default).1 ≤ p.1) → t < m → whP inT inB m (stI rows F k j) = .ret (.nx (stI rows F k (j + t)))
  | t, j, 0, _, _, _, h => absurd h (Nat.not_lt_zero _)
  | 0, j, m + 1, hl, _, he, _ => by
    rw [whP_succ, in_test hk, bind_ret]
    have : (decide ((j : Int) < (rows.length : Int)) && decide (p.1 < (rows.getD j default).1)) = false := by
      rw [Bool.and_eq_false_iff]
      rcases he with he | he
      · left; exact decide_eq_false (by omega)
      · right; exact decide_eq_false (by have he : (rows.getD j default).1 ≤ p.1 := he; omega)
    rw [this, if_neg Bool.false_ne_true]; rfl
  | t + 1, j, m + 1, hl, hg, he, hm => by
    rw [whP_succ, in_test hk, bind_ret]
    have : (decide ((j : Int) < (rows.length : Int)) && decide (p.1 < (rows.getD j default).1)) = true := by
      rw [decide_eq_true (show (j : Int) < (rows.length : Int) by omega), decide_eq_true (hg j (Nat.le_refl _) (by omega))]; rfl
    rw [this, if_pos rfl]
    have st : inB (stI rows F k j) = .ret (.nx (stI rows F k (j + 1))) := z_setO (o_v (q_2 (q_var rfl) q_C o_addI))
    rw [st, bind_ret]
    have := in_loop hk t (j + 1) m (by omega) (fun i h1 h2 => hg i (by omega) (by omega)) (by rw [show j + 1 + t = j + (t + 1) by omega]; exact he) (by omega)
    rw [show j + 1 + t = j + (t + 1) by omega] at this
    exact this
abbrev outT : SB := tB (c2 (coO2 .Lt) (cVar 2) (c1 lenO' (cVw 0)))
abbrev outB (R : List D → Pg D) : ST := DL.tSeq (tSet 3 (oV (c2 addO (cVar 2) (cC (.int 1))))) (DL.tSeq (tWh (fun _ => 1000000) inT inB) (DL.tSeq (tX (xApp 1 (xE (cTup (aC (c2 ixO (c2 ixO (cVw 0) (cVar 2)) (cC (.int 1))) (aC (cCall R (aC (cSl (cVw 0) (c2 addO (cVar 2) (cC (.int 1))) (cVar 3)) aN)) aN)))))) (tSet 2 (oV (cVar 3)))))
def partsF : Fo → List Fo
  | .nil => []
  | .cons _ p r => p :: partsF r
theorem cut_mid {α : Type} (a b c : List α) : cutL (a ++ (b ++ c)) (some ((a.length : Int))) (some ((a.length : Int) + (b.length : Int))) = b := by
  unfold cutL
  have e1 : HT.sIx (a ++ (b ++ c)).length 0 (some (a.length : Int)) = a.length := by
    unfold HT.sIx
    simp
    omega
  have e2 : HT.sIx (a ++ (b ++ c)).length (a ++ (b ++ c)).length (some ((a.length : Int) + (b.length : Int))) = a.length + b.length := by
    unfold HT.sIx
    simp only [List.length_append]
    rw [if_neg (by omega)]
    omega
  rw [e1, e2, List.drop_left, show a.length + b.length - a.length = b.length by omega, List.take_left]
theorem out_loop {R : List D → Pg D} {d : Int} : ∀ (r : Fo) (pre : List (Int × Str)) (F : List D) (m : Nat) (w3 : Sl), rows = pre ++ nodes d r → (∀ p ∈ partsF r, R [rE (nodes (d + 1) p)] = .ret (eFo p)) → r.size < m → F.length + rows.length ≤ 100000 + pre.length → rows.length ≤ 60000 →
    ∃ v3, whP outT (outB R) m [.v (rE rows), .o (.lst F), .v (.int (pre.length : Int)), w3] = .ret (.nx [.v (rE rows), .o (.lst (F ++ encF r)), .v (.int (rows.length : Int)), v3])
  | r, pre, F, 0, w3, _, _, h, _, _ => absurd h (Nat.not_lt_zero _)
  | .nil, pre, F, m + 1, w3, hr, _, _, _, _ => by
    have hl : rows.length = pre.length := by rw [hr]; show (pre ++ []).length = _; rw [List.append_nil]
    have ts : outT [.v (rE rows), .o (.lst F), .v (.int (pre.length : Int)), w3] = .ret (decide ((pre.length : Int) < (rows.length : Int))) := q_tB (q_2 (q_var rfl) (q_1 (q_vw rfl) o_lenT) o_ltI2)
    refine ⟨w3, ?_⟩
    rw [whP_succ, ts, bind_ret, decide_eq_false (by omega), if_neg Bool.false_ne_true, hl]
    show Pg.ret (Out.nx _) = Pg.ret (Out.nx [.v (rE rows), .o (.lst (F ++ [])), _, _])
    rw [List.append_nil]
  | .cons n p r, pre, F, m + 1, w3, hr, hR, hm, hF, h6 => by
    have hr' : rows = pre ++ ((d, n) :: (nodes (d + 1) p ++ nodes d r)) := hr
    have sz : (Fo.cons n p r).size = p.size + r.size + 1 := rfl
    have lp : (nodes (d + 1) p).length = p.size := nodes_len p (d + 1)
    have lr : (nodes d r).length = r.size := nodes_len r d
    have hl : rows.length = pre.length + (1 + (p.size + r.size)) := by
      rw [hr', List.length_append, List.length_cons, List.length_append, lp, lr]; omega
    have ts : outT [.v (rE rows), .o (.lst F), .v (.int (pre.length : Int)), w3] = .ret (decide ((pre.length : Int) < (rows.length : Int))) := q_tB (q_2 (q_var rfl) (q_1 (q_vw rfl) o_lenT) o_ltI2)
    rw [whP_succ, ts, bind_ret, decide_eq_true (show (pre.length : Int) < (rows.length : Int) by omega), if_pos rfl]
    have hk : rows[pre.length]? = some (d, n) := by rw [hr', List.getElem?_append_right (Nat.le_refl _), Nat.sub_self]; rfl
    have a1 : tSet 3 (oV (c2 addO (cVar 2) (cC (.int 1)))) [.v (rE rows), .o (.lst F), .v (.int (pre.length : Int)), w3] = .ret (.nx (stI rows F pre.length (pre.length + 1))) := z_setO (o_v (q_2 (q_var rfl) q_C o_addI))
    have mid : ∀ i, pre.length + 1 ≤ i → i < pre.length + 1 + p.size → d < (rows.getD i default).1 := fun i h1 h2 => by
      have e : rows[i]? = (nodes (d + 1) p)[i - (pre.length + 1)]? := by
        rw [hr', List.getElem?_append_right (by omega), show i - pre.length = (i - (pre.length + 1)) + 1 by omega, List.getElem?_cons_succ, List.getElem?_append_left (by omega)]
      have lt : i - (pre.length + 1) < (nodes (d + 1) p).length := by omega
      rw [List.getD_eq_getElem?_getD, e, List.getElem?_eq_getElem lt]
      have := nodes_deep p (d + 1) _ (List.getElem_mem lt)
      show d < ((nodes (d + 1) p)[i - (pre.length + 1)]).1
      omega
    have fin : pre.length + 1 + p.size = rows.length ∨ (rows.getD (pre.length + 1 + p.size) default).1 ≤ d := by
      cases r with
      | nil => left; have : (Fo.nil).size = 0 := rfl; omega
      | cons n2 p2 r2 =>
        right
        have e : rows[pre.length + 1 + p.size]? = some (d, n2) := by
          rw [hr', List.getElem?_append_right (by omega), show pre.length + 1 + p.size - pre.length = p.size + 1 by omega, List.getElem?_cons_succ, List.getElem?_append_right (by omega), lp, Nat.sub_self]; rfl
        rw [List.getD_eq_getElem?_getD, e]
        exact Int.le_refl _
    have a2 : tWh (fun _ => 1000000) inT inB (stI rows F pre.length (pre.length + 1)) = .ret (.nx (stI rows F pre.length (pre.length + 1 + p.size))) := in_loop hk p.size (pre.length + 1) 1000000 (by omega) mid fin (by omega)
    have cu : cutL rows (some ((pre.length : Int) + 1)) (some ((pre.length + 1 + p.size : Nat) : Int)) = nodes (d + 1) p := by
      have := cut_mid (pre ++ [(d, n)]) (nodes (d + 1) p) (nodes d r)
      rw [List.append_assoc] at this
      rw [show rows = pre ++ ([(d, n)] ++ (nodes (d + 1) p ++ nodes d r)) from hr']
      rw [List.length_append, List.length_singleton, lp] at this
      rw [show ((pre.length + 1 : Nat) : Int) = (pre.length : Int) + 1 by omega] at this
      rw [show ((pre.length + 1 + p.size : Nat) : Int) = (pre.length : Int) + 1 + (p.size : Int) by omega]
      exact this
    have tu : (cTup (aC (c2 ixO (c2 ixO (cVw 0) (cVar 2)) (cC (.int 1))) (aC (cCall R (aC (cSl (cVw 0) (c2 addO (cVar 2) (cC (.int 1))) (cVar 3)) aN)) aN))) (stI rows F pre.length (pre.length + 1 + p.size)) = .ret (eD (.tup [.str n, .tup (encF p)])) := by
      refine q_tup (q_aC (q_2 (q_2 (q_vw rfl) (q_var rfl) (at_row hk)) q_C rfl) (q_aC (q_call (q_aC (q_sl (q_vw rfl) (q_2 (q_var rfl) q_C o_addI) (q_var rfl) (e := rE (nodes (d + 1) p)) ?_) q_aN) (hR p (List.mem_cons_self ..))) q_aN))
      rw [← cu]
      exact o_slT
    have a3 : tX (xApp 1 (xE (cTup (aC (c2 ixO (c2 ixO (cVw 0) (cVar 2)) (cC (.int 1))) (aC (cCall R (aC (cSl (cVw 0) (c2 addO (cVar 2) (cC (.int 1))) (cVar 3)) aN)) aN))))) (stI rows F pre.length (pre.length + 1 + p.size)) = .ret (.nx (stI rows ((F ++ [D.tup [.str n, .tup (encF p)]]).map eD) pre.length (pre.length + 1 + p.size))) :=
      z_appL (f := eD) (xs := F) (x := .tup [.str n, .tup (encF p)]) (by show some F = some (F.map id); rw [List.map_id]) tu (lim_lt (by omega))
    have a4 : tSet 2 (oV (cVar 3)) (stI rows ((F ++ [D.tup [.str n, .tup (encF p)]]).map eD) pre.length (pre.length + 1 + p.size)) = .ret (.nx [.v (rE rows), .o (.lst (F ++ [D.tup [.str n, .tup (encF p)]])), .v (.int ((pre.length + 1 + p.size : Nat) : Int)), .v (.int ((pre.length + 1 + p.size : Nat) : Int))]) := by
      rw [show (F ++ [D.tup [.str n, .tup (encF p)]]).map eD = F ++ [D.tup [.str n, .tup (encF p)]] from List.map_id _]
      exact z_setO (o_v (q_var rfl))
    have body : outB R [.v (rE rows), .o (.lst F), .v (.int (pre.length : Int)), w3] = .ret (.nx [.v (rE rows), .o (.lst (F ++ [D.tup [.str n, .tup (encF p)]])), .v (.int ((pre.length + 1 + p.size : Nat) : Int)), .v (.int ((pre.length + 1 + p.size : Nat) : Int))]) := z_seq a1 (z_seq a2 (z_seq a3 a4))
    rw [body, bind_ret]
    have pl : (pre ++ (d, n) :: nodes (d + 1) p).length = pre.length + 1 + p.size := by rw [List.length_append, List.length_cons, lp]; omega
    obtain ⟨v3, ih⟩ := out_loop (R := R) (d := d) r (pre ++ (d, n) :: nodes (d + 1) p) (F ++ [D.tup [.str n, .tup (encF p)]]) m (.v (.int ((pre.length + 1 + p.size : Nat) : Int))) (by rw [hr', List.append_assoc]; rfl) (fun q hq => hR q (List.mem_cons_of_mem _ hq)) (by omega) (by rw [List.length_append, List.length_singleton, pl]; omega) h6
    rw [pl] at ih
    refine ⟨v3, ?_⟩
    show whP outT (outB R) m _ = _
    rw [ih, List.append_assoc]; rfl
end
theorem parts_hgt : ∀ (f : Fo), ∀ p ∈ partsF f, hgt p + 1 ≤ hgt f ∧ p.size ≤ f.size
  | .nil, p, h => nomatch h
  | .cons n q r, p, h => by
    show hgt p + 1 ≤ max (hgt q + 1) (hgt r) ∧ p.size ≤ q.size + r.size + 1
    rcases List.mem_cons.mp (show p ∈ q :: partsF r from h) with rfl | h
    · omega
    · have := parts_hgt r p h; omega
theorem trees_law : ∀ (n : Nat) (f : Fo) (d : Int), hgt f < n → f.size ≤ 60000 → F__law_trees n [rE (nodes d f)] = .ret (eFo f)
  | 0, f, d, h, _ => absurd h (Nat.not_lt_zero _)
  | n + 1, f, d, h, hs => by
    have ln : (nodes d f).length = f.size := nodes_len f d
    have hR : ∀ p ∈ partsF f, F__law_trees n [rE (nodes (d + 1) p)] = .ret (eFo p) := fun p hp => by
      have := parts_hgt f p hp
      exact trees_law n p (d + 1) (by omega) (by omega)
    obtain ⟨v3, lp⟩ := out_loop (rows := nodes d f) (R := F__law_trees n) (d := d) f [] [] 1000000 .e rfl hR (by omega) (by show 0 + (nodes d f).length ≤ 100000 + 0; omega) (by omega)
    have b : B__law_trees (F__law_trees n) [.v (rE (nodes d f)), .e, .e, .e] = .ret (.rt (eFo f)) := by
      unfold B__law_trees
      refine z_seq (z_par2 (Δ1 := [.v (rE (nodes d f)), .o (.lst []), .v (.int ((0 : Nat) : Int)), .e]) rfl rfl) (z_seq (S1 := tWh (fun _ => 1000000) outT (outB (F__law_trees n))) lp ?_)
      rfl
    show ((B__law_trees (F__law_trees n) [.v (rE (nodes d f)), .e, .e, .e]).bind fun o => match o with
      | .nx _ => .ret .non
      | .rt d => .ret d
      | _ => .fail) = _
    rw [b]; rfl
/-! the law's own Forest -/
def okWood (rows : List (Int × Str)) : Prop := okRows rows ∧ ∀ q ∈ rows, q.1 ≤ 15
end Pg0
end
section
set_option Elab.async false
set_option linter.all false
set_option maxRecDepth 1000000
set_option maxHeartbeats 1000000
/-! Forest: check, above -/
namespace Pk
open PySem DL L2
variable {f : For}
/-- the places above, the nearest first -/
def ancP (rows : List (Int × Str)) : Nat → Int → List Int
  | 0, _ => []
  | n + 1, d => match rows[n]? with
    | some q => if q.1 < d then (n : Int) :: ancP rows n q.1 else ancP rows n d
    | none => ancP rows n d
end Pk
end
section
set_option Elab.async false
set_option linter.all false
set_option maxRecDepth 1000000
set_option maxHeartbeats 1000000
/-! Forest.only -/
namespace Pk
open PySem DL L2
variable {f : For}
/-- open depths: those from d on are let go -/
def popD (d : Int) (S : List Int) : List Int := (S.reverse.dropWhile fun x => decide (d ≤ x)).reverse
/-- one node of those that are kept: open depths, rows so far -/
def onlyS (ps : List Int) (z : List Int × List (Int × Str)) (q : Int × Int × Str) : List Int × List (Int × Str) :=
  if q.1 ∈ ps then (popD q.2.1 z.1 ++ [q.2.1], z.2 ++ [(((popD q.2.1 z.1).length : Int) + 1, q.2.2)]) else (popD q.2.1 z.1, z.2)
end Pk
end
section
set_option Elab.async false
set_option linter.all false
set_option maxRecDepth 1000000
set_option maxHeartbeats 1000000
/-! Forest.only, to its end -/
namespace Pk
open PySem DL L2
variable {f : For}
def lastD : Int → List (Int × Str) → Int
  | d, [] => d
  | _, q :: F => lastD q.1 F
end Pk
end
section
set_option Elab.async false
set_option linter.all false
set_option maxRecDepth 100000
set_option maxHeartbeats 1000000
namespace Pk
open PySem DL L2
abbrev Room := Option Int
abbrev Ent := Str × Option Str × Room
abbrev Form := List Ent × Bool × Room
structure Lab where
  names : List Str
  rest : Bool
  deriving Inhabited
structure Stp where
  kind : Str
  what : D
structure Pipe where
  steps : List Stp
  form : Form
instance : Inhabited Stp := ⟨⟨default, .non⟩⟩
instance : Inhabited Pipe := ⟨⟨[], default⟩⟩
def eLab (l : Lab) : D := .ins 1 ["own_names", "own_rest"] [eT eS l.names, eB l.rest]
def eStp (s : Stp) : D := .ins 2 ["own_kind", "own_what"] [eS s.kind, s.what]
instance : Inj eLab := ⟨fun a b h => by
  obtain ⟨a1, a2⟩ := a
  obtain ⟨b1, b2⟩ := b
  unfold eLab at h
  injection h with _ _ h
  injection h with h1 h2
  injection h2 with h2
  have h3 := (inferInstance : Inj (eT eS)).inj _ _ h1
  have h4 := (inferInstance : Inj eB).inj _ _ h2
  cases h3; cases h4; rfl⟩
instance : Inj eStp := ⟨fun a b h => by
  obtain ⟨a1, a2⟩ := a
  obtain ⟨b1, b2⟩ := b
  unfold eStp at h
  injection h with _ _ h
  injection h with h1 h2
  injection h2 with h2
  have h3 := (inferInstance : Inj eS).inj _ _ h1
  cases h3
  have h4 : a2 = b2 := h2
  cases h4; rfl⟩
noncomputable def f_lesser (one : (Option Int)) (other : (Option Int)) : (Option Int) := (if (one.isNone || other.isNone) = true then (if one.isNone = true then other else one) else (some (min (one.getD default) (other.getD default))))
noncomputable def f_entry_in_1 (v1 : Str) (z : Unit) (x : (Str × (Option Str) × (Option Int))) : (Unit ⊕ ((Option Str) × (Option Int))) := (if (decide (x.1 = v1)) = true then (Sum.inr (x.2.1, x.2.2)) else (Sum.inl ()))
noncomputable def f_entry_in (form : Form) (name : Str) : ((Option Str) × (Option Int)) := (Sum.elim (fun (z5 : Unit) => ((if form.2.1 = true then (some name) else (none : (Option Str))), form.2.2)) (fun (r6 : ((Option Str) × (Option Int))) => r6) (loopP (f_entry_in_1 name) form.1 ()))
noncomputable def f_height_in_1 (v3 : (List (Option Int))) : (Option Int) := (if (decide ((0 : Int) < (v3.length : Int))) = true then (ixD v3 (0 : Int)) else (some (0 : Int)))
noncomputable def f_height_in (form : Form) : (Option Int) := (if form.2.1 = true then form.2.2 else (f_height_in_1 ((form.1.filter fun (y13 : (Str × (Option Str) × (Option Int))) => (!y13.2.1.isNone)).map fun (y13 : (Str × (Option Str) × (Option Int))) => y13.2.2)))
noncomputable def f_depth_in (form : Form) : (Option Int) := (if ((decide (form = (([] : (List (Str × (Option Str) × (Option Int)))), (false, (some (0 : Int)))))) || (f_height_in form).isNone) = true then (if (decide (form = (([] : (List (Str × (Option Str) × (Option Int)))), (false, (some (0 : Int)))))) = true then (some (0 : Int)) else (none : (Option Int))) else (some (((f_height_in form).getD default) + (1 : Int))))
noncomputable def f_told_in (one : Form) (other : Form) : (List Str) := (ss ((one.1 ++ other.1).map fun (y20 : (Str × (Option Str) × (Option Int))) => y20.1))
def vc_told_in (one : Form) (other : Form) : Prop := (((one.1.length + other.1.length ≤ lim)) ∧ ((one.1 ++ other.1).length ≤ lim)) ∧ (((one.1 ++ other.1).map fun (y20 : (Str × (Option Str) × (Option Int))) => y20.1).length < 4000)
end Pk
end
section
set_option Elab.async false
set_option linter.all false
set_option maxRecDepth 100000
set_option maxHeartbeats 1000000
/-! the makers of Step and Pipeline, typed by hand -/
namespace Pk
open PySem DL L2
abbrev ePs : List (Str × Str) → D := eT (e2 eS eS)
abbrev ePl : List (Str × Str) → D := eL (e2 eS eS)
/-- what a Step is of -/
inductive StD : Str → D → D → Prop where
  | cut (n : Int) (h : 1 ≤ n) : StD "cut" (.int n) (.int n)
  | lab (k : Str) (l : Lab) (h : k = "drop" ∨ k = "unwrap") : StD k (eLab l) (eLab l)
  | ren (d : D) (ps : List (Str × Str)) (hd : d = ePl ps ∨ d = ePs ps) (hl : ps.length < 64) (hn : (ps.map fun p => p.1).Nodup) : StD "rename" d (ePs (ssP (ps.filter fun p => !decide (p.1 = p.2))))
theorem StD.one {k : Str} {d e e' : D} (h : StD k d e) (h' : StD k d e') : e = e' := by
  cases h with
  | cut n _ =>
    generalize hk : (Str.ofString "cut") = kk at h'
    generalize hd : (D.int n) = dd at h'
    cases h' with
    | cut m _ => cases hd; rfl
    | lab _ l hl => cases hd
    | ren d ps hps => 
      rcases hps with rfl | rfl <;> cases hd
  | lab k l hk =>
    generalize hd : eLab l = dd at h'
    cases h' with
    | cut m _ => cases hd
    | lab _ l' hl => exact hd.symm ▸ rfl
    | ren d ps hps =>
      rcases hps with rfl | rfl <;> cases hd
  | ren d ps hd =>
    generalize hk : (Str.ofString "rename") = kk at h'
    cases h' with
    | cut m _ => rcases hd with hd | hd <;> cases hd
    | lab _ l hl => rcases hd with hd | hd <;> cases hd
    | ren d ps' hd' =>
      have : ps = ps' := by
        rcases hd with rfl | rfl
        · rcases hd' with h | h
          · exact (inferInstance : Inj ePl).inj _ _ h
          · cases h
        · rcases hd' with h | h
          · cases h
          · exact (inferInstance : Inj ePs).inj _ _ h
      rw [this]
/-! Pipeline -/
end Pk
end
section
set_option Elab.async false
set_option linter.all false
set_option maxRecDepth 100000
set_option maxHeartbeats 1000000
namespace Pk
open PySem DL L2
noncomputable def f_Pipeline_form (self : Pipe) : Form := self.form
end Pk
end
section
set_option Elab.async false
set_option linter.all false
set_option maxRecDepth 1000000
/-! the first numbers of the script, with int() of a text too -/
namespace DL
open PySem L2
local macro_rules | `(tactic| tm_at "dp") => `(tactic| simp only [outP_rt, outP_nx, bind_draw, intOf_e, ownL_z, ownL_s, xApp_e, xPop_e, bind_ret, bind_fail, ofO_some, cVar_z, cVar_s, cVw_z, cVw_w, cVw_o, cVw_s, cC_e, c1_e, c2_e, aN_e, aC_e, cL_e, cCall_e, cMk_e, cIf_e, tB_e, tT_e, tNot_e, tAnd_e, tOr_e, eAnd_e, eOr_e, cNot_e, toB_e, truO_bl, cTup_e, aL_e, cProp_e, cOwn_e, cOwnIn_e, aLc_e, aIt_e, aSort_e, aRg1_e, aZip_e, aEnum_e, aList_e, tSeq_e, tNil_e, tRet_e, tIf_e, tSet_e, oV_e, oL_e, xE_e, tX_e, tAsg_e, tFor_e, tFrz_e, tPar_e, ite_t, ite_f, List.set_cons_zero, List.set_cons_succ, Bool.not_true, Bool.not_false, List.append_nil, ↓reduceIte, wipeS, Bool.and_self, List.cons_append, List.nil_append, Bool.false_eq_true, *])
def B_cells2 : ST := (DL.tSeq (tSet 2 (oOr (aList (c2 sl01 (cVw 0) (cVar 1))) (aL (aC (cC (.int 0)) aN)))) (DL.tSeq (DL.tFor (.tp [(.nm 3), (.nm 4)]) (aEnumA (cSl (cVw 0) (cVar 1) (cC (.int 63)))) (DL.tSeq (tSet 5 (oV (c2 modO (c1 int2O (cVar 3)) (cVar 1)))) (tPut 2 (c2 addO (c2 ixO (cVw 2) (cVar 5)) (c2 mulO (cVar 4) (c2 addO (cVar 3) (cC (.int 2))))) (cVar 5)))) (tRetO 2)))
def F_cells2 : List D → Pg D := runF [] 2 6 B_cells2
theorem e_cells2 {ns : List Int} {t : Nat} (ht : 0 < t) (ht3 : t ≤ 3) (hl : ns.length ≤ 63) : ∃ cs : List Int, F_cells2 [.frl (ns.map D.int), .int (t : Nat)] = .ret (.lst (cs.map D.int)) ∧ 0 < cs.length ∧ cs.length ≤ t := by
  have e1 : sl01 (.frl (ns.map D.int)) (.int (t : Nat)) = some (.lst ((ns.take t).map D.int)) := by
    show some (D.lst (cutD (ns.map D.int) none (some (t : Int)))) = _
    rw [cut_map, cut_take]
  have e2 : slO (.frl (ns.map D.int)) (some (t : Int)) (some 63) = some (.lst ((cutL ns (some (t : Int)) (some 63)).map D.int)) := by
    show some (D.lst (cutD (ns.map D.int) (some (t : Int)) (some 63))) = _
    rw [cut_map]
  have start : ∃ cs : List Int, 0 < cs.length ∧ cs.length ≤ t ∧ (t < ns.length → cs.length = t) ∧ oOr (aList (c2 sl01 (cVw 0) (cVar 1))) (aL (aC (cC (.int 0)) aN)) [.v (.frl (ns.map D.int)), .v (.int (t : Nat)), .e, .e, .e, .e] = .ret (.o (.lst (cs.map D.int))) := by
    have f1 : ∀ l : List D, itemsV (.lst l) = some l := fun _ => rfl
    cases ns with
    | nil =>
      refine ⟨[0], by decide, (by show 1 ≤ t; omega), (fun h => by simp at h), ?_⟩
      show ((ofO (sl01 (.frl (([] : List Int).map D.int)) (.int (t : Nat)))).bind fun x => ofO (itemsV x)).bind _ = _
      rw [e1, List.take_nil]
      rfl
    | cons a r =>
      refine ⟨(a :: r).take t, by rw [List.length_take, List.length_cons]; omega, by rw [List.length_take]; omega, (fun h => by rw [List.length_take]; omega), ?_⟩
      show ((ofO (sl01 (.frl ((a :: r).map D.int)) (.int (t : Nat)))).bind fun x => ofO (itemsV x)).bind _ = _
      rw [e1]
      obtain ⟨t', rfl⟩ : ∃ t', t = t' + 1 := ⟨t - 1, by omega⟩
      rw [List.take_succ_cons]
      rfl
  obtain ⟨cs0, h0, h3, hL, es⟩ := start
  have lp := co_for (b := false) (tg := .tp [.nm 3, .nm 4]) (body := DL.tSeq (tSet 5 (oV (c2 modO (c1 int2O (cVar 3)) (cVar 1)))) (tPut 2 (c2 addO (c2 ixO (cVw 2) (cVar 5)) (c2 mulO (cVar 4) (c2 addO (cVar 3) (cC (.int 2))))) (cVar 5))) (ds := enumD ((cutL ns (some (t : Int)) (some 63)).map D.int)) (I := fun _ Δ => ∃ (cs : List Int) (x3 x4 x5 : Sl), Δ = [.v (.frl (ns.map D.int)), .v (.int (t : Nat)), .o (.lst (cs.map D.int)), x3, x4, x5] ∧ cs.length = cs0.length) 0 0 [.v (.frl (ns.map D.int)), .v (.int (t : Nat)), .o (.lst (cs0.map D.int)), .e, .e, .e] ?_ ⟨cs0, .e, .e, .e, rfl, rfl⟩ (Nat.zero_le _)
  · rw [List.drop_zero] at lp
    obtain ⟨o, e3, Δ', e4, cs, x3, x4, x5, e5, e6⟩ := lp.eq
    subst e4 e5
    refine ⟨cs, ?_, by omega, by omega⟩
    show runF [] 2 6 B_cells2 _ = _
    refine (runF_at [.v (.frl (ns.map D.int)), .v (.int (t : Nat)), .e, .e, .e, .e] rfl rfl).trans ?_
    unfold B_cells2
    show (((oOr (aList (c2 sl01 (cVw 0) (cVar 1))) (aL (aC (cC (.int 0)) aN)) [.v (.frl (ns.map D.int)), .v (.int (t : Nat)), .e, .e, .e, .e]).bind _).bind _).bind _ = _
    rw [es]
    show ((((ofO (slO (.frl (ns.map D.int)) (some (t : Int)) (some 63))).bind _).bind _).bind _).bind _ = _
    rw [e2]
    show (((forP (.tp [.nm 3, .nm 4]) _ (enumD ((cutL ns (some (t : Int)) (some 63)).map D.int)) [.v (.frl (ns.map D.int)), .v (.int (t : Nat)), .o (.lst (cs0.map D.int)), .e, .e, .e]).bind _)).bind _ = _
    rw [e3]
    rfl
  · rintro j d Δ hj ⟨cs, x3, x4, x5, rfl, hc⟩
    obtain ⟨v, hv, rfl⟩ := enum_map' hj
    have h4 : t < ns.length := cutL_from hv
    have hi : j < 63 := by
      have h5 := (List.getElem?_eq_some_iff.mp hv).1
      have h6 := cutL_len ns (some (t : Int)) (some 63)
      omega
    have hcs : cs.length = t := hc.trans (hL h4)
    have hp1 := Int.emod_nonneg (j : Int) (show ((t : Nat) : Int) ≠ 0 by omega)
    have hp2 := Int.emod_lt_of_pos (j : Int) (show (0 : Int) < ((t : Nat) : Int) by omega)
    have hm : ((j : Int) % (t : Nat)).toNat < cs.length := by omega
    have g1 : modO (.int (j : Nat)) (.int (t : Nat)) = some (.int ((j : Int) % (t : Nat))) := if_pos (by omega)
    have g2 : ixO (.lst (cs.map D.int)) (.int ((j : Int) % (t : Nat))) = some (.int cs[((j : Int) % (t : Nat)).toNat]) := by
      have q := ix_lst (f := D.int) (xs := cs) (j := ((j : Int) % (t : Nat)).toNat) (List.getElem?_eq_getElem hm)
      rw [Int.toNat_of_nonneg (by omega)] at q
      exact q
    have g3 : mulO (.int v) (.int ((j : Nat) + 2)) = some (.int (v * ((j : Nat) + 2))) := if_pos (.inl (Nat.ble_eq_true_of_le (by omega)))
    have g4 : L2.ixN (cs.map D.int).length ((j : Int) % (t : Nat)) = some ((j : Int) % (t : Nat)).toNat := ixN_pos' (by omega) (by rw [List.length_map]; omega)
    refine Co.of_eq (a := .nx [.v (.frl (ns.map D.int)), .v (.int (t : Nat)), .o (.lst ((cs.set ((j : Int) % (t : Nat)).toNat (cs[((j : Int) % (t : Nat)).toNat] + v * ((j : Nat) + 2))).map D.int)), .v (.int (j : Nat)), .v (.int v), .v (.int ((j : Int) % (t : Nat)))]) ?_ ⟨_, .inl rfl, _, _, _, _, rfl, by rw [List.length_set]; exact hc⟩
    have g5 : tgS (.tp [.nm 3, .nm 4]) (.tup [.int (j : Nat), .int v]) [.v (.frl (ns.map D.int)), .v (.int (t : Nat)), .o (.lst (cs.map D.int)), x3, x4, x5] = some [.v (.frl (ns.map D.int)), .v (.int (t : Nat)), .o (.lst (cs.map D.int)), .v (.int (j : Nat)), .v (.int v), x5] := rfl
    have g6 : ∀ {i : Nat} {s t : SE} {Δ : List Sl}, tPut i s t Δ = (s Δ).bind fun y => (ofO (ownL Δ i)).bind fun ds => (t Δ).bind fun z => (ofO (intOf z)).bind fun n => (ofO (L2.ixN ds.length n)).bind fun j => .ret (.nx (Δ.set i (.o (.lst (ds.set j y))))) := fun {i s t Δ} => rfl
    have g7 : ∀ a b : Int, addO (.int a) (.int b) = some (.int (a + b)) := fun _ _ => rfl
    have g8 : ∀ a : Int, int2O (.int a) = some (.int a) := fun _ => rfl
    rw [List.map_set]
    clear hv hj e1 e2 es hL h0 h3 hl hc h4 hi hcs
    tm_at "dp"
open PySem L2
theorem tail_ok2 {ns : List Int} {t : Nat} (ht : 0 < t) (ht3 : t ≤ 3) (hl : ns.length ≤ 63) : B_tail F_cells2 t [.v (.frl (ns.map D.int)), .e, .e] = .ret (.rt (.bl true)) := by
  obtain ⟨cs, e, h0, h3⟩ := e_cells2 ht ht3 hl
  refine z_seq (Δ1 := [.v (.frl (ns.map D.int)), .v (.lst (cs.map D.int)), .e]) (z_setO (o_v (q_call (q_aC (q_var rfl) (q_aC q_C q_aN)) e))) ?_
  refine z_ret ?_
  have q : (cL (aLc (.nm 2) [2] (aRg1 (c1 lenO' (cVw 1))) DL.tYes (cBox (cVar 1) (cVar 2)))) [.v (.frl (ns.map D.int)), .v (.lst (cs.map D.int)), .e] = .ret (eL eB ((rngI 0 (cs.length : Int).toNat).map fun _ => true)) := by
    refine q_cLL (q_lc0 (f := eI) (g := eB) (q_rg1 (q_1 (q_vw rfl) (o_lenL (f := D.int))) (inR_nat (by omega))) ?_ fun x hx => ⟨_, rfl, ?_⟩)
    · unfold rngI
      rw [List.length_map, List.length_range, lim]
      omega
    · unfold rngI at hx
      obtain ⟨i, hi, rfl⟩ := List.mem_map.mp hx
      have hi := List.mem_range.mp hi
      show (match unI (cs.map D.int) with
        | some ns => if (0 : Int) ≤ 0 + (i : Nat) ∧ (0 : Int) + (i : Nat) < ns.length ∧ (0 : Int) + (i : Nat) < 100 then Pg.ret (D.bl true) else .fail
        | none => .fail) = _
      rw [unI_map]
      exact if_pos ⟨by omega, by omega, by omega⟩
  refine q_1 q (o_all.trans ?_)
  have : ∀ xs : List Int, (xs.map fun _ => true).all id = true := fun xs => by simp
  rw [this]
theorem law_in2 {F : List D → Pg D} {ns : List Int} {t : Nat} (hF : F = runF [] 1 3 (B_tail F_cells2 t)) (ht : 0 < t) (ht3 : t ≤ 3) (hl : ns.length ≤ 63) : F [.frl (ns.map D.int)] = .ret (.bl true) := by
  rw [hF]
  refine (runF_at [.v (.frl (ns.map D.int)), .e, .e] rfl rfl).trans ?_
  rw [tail_ok2 ht ht3 hl]
  rfl
end DL
end
section
set_option Elab.async false
set_option linter.all false
set_option maxRecDepth 100000
/-! typed readings: more of one's own row at once; texts made of parts -/
namespace DL
open PySem L2
section
variable {α : Type} {f : α → D} {Δ : List Sl} {s t : SE} {i : Nat}
/-- a number's text -/
def nS (i : Int) : Str := toString i
def joinOk (z : Str) (ys : List Str) : Prop := (ys.map (·.length)).sum + ys.length * z.length ≤ lim
theorem o_joinL {z : Str} {ys : List Str} (h : joinOk z ys) : joinO (eS z) (eL eS ys) = some (eS (Txt.join z ys)) := by
  show ((unS (ys.map D.str)).bind fun ys => if (ys.map (·.length)).sum + ys.length * z.length ≤ lim then some (D.str (Txt.join z ys)) else none) = _
  rw [unS_map]
  show (if (ys.map (·.length)).sum + ys.length * z.length ≤ lim then some (D.str (Txt.join z ys)) else none) = _
  rw [if_pos (show (ys.map (·.length)).sum + ys.length * z.length ≤ lim from h)]
end
end DL
end
section
set_option Elab.async false
set_option linter.all false
set_option maxRecDepth 100000
set_option maxHeartbeats 1000000
namespace Pk
open PySem DL L2
noncomputable def f_Labels_text (self : Lab) : Str := (if (decide ((self.names.length : Int) = (0 : Int))) = true then (if self.rest = true then ("*" : Str) else ("-" : Str)) else (if self.rest = true then (("* - " : Str) ++ (Txt.join (" " : Str) self.names)) else (Txt.join (" " : Str) self.names)))
def vc_Labels_text (self : Lab) : Prop := ((decide ((self.names.length : Int) = (0 : Int))) = false → ((joinOk (" " : Str) self.names)) ∧ ((self.rest = true → (("* - " : Str).length + (Txt.join (" " : Str) self.names).length ≤ lim))))
noncomputable def f_Step_text_1 (v1 : Str) : Str := ((("rename" : Str) ++ (" " : Str)) ++ (if (!decide (v1 = ("" : Str))) = true then v1 else ("-" : Str)))
def vc_Step_text_1 (v1 : Str) : Prop := ((("rename" : Str).length + (" " : Str).length ≤ lim)) ∧ ((("rename" : Str) ++ (" " : Str)).length + (if (!decide (v1 = ("" : Str))) = true then v1 else ("-" : Str)).length ≤ lim)
noncomputable def f_Step_text (self : Stp) : Str := (if (decide (self.kind = ("cut" : Str))) = true then (("cut" : Str) ++ (" " : Str) ++ nS (un eI self.what)) else (if (!decide (self.kind = ("rename" : Str))) = true then ((self.kind ++ (" " : Str)) ++ (f_Labels_text (un eLab self.what))) else (f_Step_text_1 (Txt.join (" " : Str) ((un (eT (e2 eS eS)) self.what).map fun (y37 : (Str × Str)) => ((y37.1 ++ ("=" : Str)) ++ y37.2))))))
def vc_Step_text (self : Stp) : Prop := ((decide (self.kind = ("cut" : Str))) = true → ((isE eI self.what)) ∧ (((("cut" : Str) ++ (" " : Str)).length ≤ lim ∧ (("cut" : Str)).length ≤ lim ∧ ((un eI self.what)).natAbs.log2 < 1920 ∧ (("cut" : Str) ++ (" " : Str) ++ nS (un eI self.what)).length ≤ lim))) ∧ ((decide (self.kind = ("cut" : Str))) = false → ((!decide (self.kind = ("rename" : Str))) = true → ((self.kind.length + (" " : Str).length ≤ lim)) ∧ (((isE eLab self.what)) ∧ (vc_Labels_text (un eLab self.what))) ∧ ((self.kind ++ (" " : Str)).length + (f_Labels_text (un eLab self.what)).length ≤ lim)) ∧ ((!decide (self.kind = ("rename" : Str))) = false → ((((isE (eT (e2 eS eS)) self.what)) ∧ ((un (eT (e2 eS eS)) self.what).length ≤ lim) ∧ (∀ y37 ∈ (un (eT (e2 eS eS)) self.what), ((y37.1.length + ("=" : Str).length ≤ lim)) ∧ ((y37.1 ++ ("=" : Str)).length + y37.2.length ≤ lim))) ∧ (joinOk (" " : Str) ((un (eT (e2 eS eS)) self.what).map fun (y37 : (Str × Str)) => ((y37.1 ++ ("=" : Str)) ++ y37.2)))) ∧ (vc_Step_text_1 (Txt.join (" " : Str) ((un (eT (e2 eS eS)) self.what).map fun (y37 : (Str × Str)) => ((y37.1 ++ ("=" : Str)) ++ y37.2))))))
end Pk
end
section
set_option Elab.async false
set_option linter.all false
set_option maxRecDepth 100000
/-! more typed readings: sorted tuples of texts, comparison with the empty list -/
namespace DL
open PySem L2
def pyOk (d : D) : Prop := ∃ p, toPy d = some p ∧ SeqAt.shaped p = true
section
variable {α : Type} {f : α → D} {xs : List α} {Δ : List Sl} {s : SE}
theorem eqv_nil : ∀ ps : List PyData, PyData.eqv (.list ps) (.list []) = ps.isEmpty
  | [] => by decide +kernel
  | p :: ps => by simp [PyData.eqv, PyData.eqvAll]
theorem pyl_empty : ∀ {ds : List D} {ps : List PyData}, toPyL ds = some ps → ps.isEmpty = ds.isEmpty
  | [], _, h => by unfold toPyL at h; cases h; rfl
  | d :: ds, _, h => by
    unfold toPyL at h
    obtain ⟨p, h1, h2⟩ := Option.bind_eq_some_iff.mp h
    obtain ⟨qs, h3, h4⟩ := Option.map_eq_some_iff.mp h2
    subst h4
    rfl
theorem eqQ_E (neg : Bool) (h : pyOk (.lst (xs.map f))) : eqO neg (.lst (xs.map f)) (.lst []) = some (.bl (if neg then !xs.isEmpty else xs.isEmpty)) := by
  obtain ⟨p, h1, h2⟩ := h
  show eqQ neg _ _ = _
  unfold eqQ
  rw [h1, show toPy (.lst []) = some (.list []) from rfl]
  show (if _ ∧ _ then _ else _) = _
  rw [if_pos ⟨h2, by decide +kernel⟩]
  unfold toPy at h1
  obtain ⟨ps, h3, h4⟩ := Option.map_eq_some_iff.mp h1
  subst h4
  rw [eqv_nil, pyl_empty h3, List.isEmpty_map]
theorem o_neE (h : pyOk (.lst (xs.map f))) : eqO true (.lst (xs.map f)) (.lst []) = some (.bl (!xs.isEmpty)) := eqQ_E true h
end
end DL
namespace DL
end DL
end
section
set_option Elab.async false
set_option linter.all false
set_option maxRecDepth 100000
set_option maxHeartbeats 4000000
/-! sorted(a list of data of one shape) -/
namespace DSet
open PySem PySem.Spec PyProof.Rows L2
section
variable {X : Cx}
end
end DSet
namespace DL
open PySem L2
def py (d : D) : PyData := (toPy d).getD .none
section
variable {γ : Nat → Addr} {X : Cx} {e : Expr} {p pos : Pos} {s : SE}
end
end DL
end
section
set_option Elab.async false
set_option linter.all false
namespace DL
open PySem L2
theorem q_tAndF {T U : SB} {Δ : List Sl} (hs : T Δ = .ret false) : tAnd T U Δ = .ret false := by
  show (T Δ).bind _ = _
  rw [hs]; rfl
end DL
end
section
set_option Elab.async false
set_option linter.all false
set_option maxRecDepth 1000000
set_option maxHeartbeats 1000000
/-! Forest: typed readings by hand -/
namespace Pk
open PySem DL L2
theorem o_fld_Forest_own_rows (f : For) : fldO 3 "own_rows" (eFor f) = some (eT (e2 eI eS) f.rows) := rfl
end Pk
end
section
set_option Elab.async false
set_option linter.all false
set_option maxRecDepth 100000
set_option maxHeartbeats 1000000
namespace Pk
open PySem DL L2
noncomputable def f_Forest_trees (self : For) : Fo := (foOf self.rows)
def vc_Forest_trees (self : For) : Prop := (okRows self.rows)
theorem b_Forest_trees (self : For) (h : vc_Forest_trees self)  : RetQ eFo (f_Forest_trees self) ((DL.tRet (cCall F_trees_of (aC (c1 (fldO 3 "own_rows") (cVar 0)) aN))) [.v (eFor self)]) := by
  exact (show RetQ eFo (foOf self.rows) _ from (y_ret (show _ = Pg.ret (eFo (foOf self.rows)) from (q_call (q_aC (q_1 (q_var rfl) (o_fld_Forest_own_rows _)) q_aN) (i_trees_of self.rows h))) rfl))
theorem t_Forest_trees (self : For) (h : vc_Forest_trees self) : F_Forest_trees [eFor self] = .ret (eFo (f_Forest_trees self)) := by
  refine (runF_at [.v (eFor self)] rfl rfl).trans ?_
  unfold B_Forest_trees
  rw [show _ = _ from b_Forest_trees self h]
  rfl
end Pk
end
section
set_option Elab.async false
set_option linter.all false
set_option maxRecDepth 100000
set_option maxHeartbeats 1000000
/-! what the forms of pipelines tell: plain theory -/
namespace Pk
open PySem DL L2
/-! ### names -/
/-! ### rooms -/
noncomputable abbrev lesR : Room → Room → Room := f_lesser
def Most : Room → Room → Prop
  | _, none => True
  | none, some _ => False
  | some a, some b => a ≤ b
/-! ### fates of labels -/
abbrev Fate := Str → Option Str × Room
def restv (r : Bool × Room) (k : Str) : Option Str × Room := (if r.1 = true then some k else none, r.2)
def NOTH : Form := ([], false, some 0)
noncomputable abbrev ev (f : Form) : Fate := f_entry_in f
/-- the form is as it should be -/
structure Nf (f : Form) : Prop where
  sp : SP (f.1.map (·.1))
  ne : ∀ e ∈ f.1, e.2 ≠ restv f.2 e.1
  bare : f.2.1 = false → (∀ e ∈ f.1, e.2.1 = none) → f = NOTH
theorem Nf.nd {f : Form} (h : Nf f) : (f.1.map (·.1)).Nodup := h.sp.imp fun {a b} hab e => by
  rw [e] at hab
  exact absurd hab (by rw [lts_irr]; decide)
/-! ### a table to a form -/
end Pk
end
section
set_option Elab.async false
set_option linter.all false
set_option maxRecDepth 100000
set_option maxHeartbeats 1000000
namespace Pk
open PySem DL L2
/-! ### forms over a pool of names -/
structure Pool (P : List Str) : Prop where
  len : P.length < 60
  ok : ∀ x ∈ P, PySem.PyData.strOk x = true
structure Gd (P : List Str) (f : Form) : Prop where
  nf : Nf f
  keys : ∀ e ∈ f.1, e.1 ∈ P
  lasts : ∀ e ∈ f.1, ∀ n, e.2.1 = some n → n ∈ P
  ht : ∃ h, ∀ k, (ev f k).1 ≠ none → (ev f k).2 = h
section
variable {P : List Str} {f A B : Form} {ns : List Str} {g : Fate} {r : Bool × Room}
theorem nodup_len : ∀ {xs ys : List Str}, xs.Nodup → (∀ x ∈ xs, x ∈ ys) → xs.length ≤ ys.length
  | [], _, _, _ => Nat.zero_le _
  | x :: xs, ys, nd, h => by
    have nd := List.nodup_cons.mp nd
    have h1 : x ∈ ys := h x (List.mem_cons_self ..)
    have := nodup_len (xs := xs) (ys := ys.erase x) nd.2 fun z hz => (List.mem_erase_of_ne fun e => nd.1 (by rw [← e]; exact hz)).mpr (h z (List.mem_cons_of_mem _ hz))
    rw [List.length_erase_of_mem h1] at this
    have := List.length_pos_of_mem h1
    rw [List.length_cons]; omega
theorem Gd.len (hP : Pool P) (h : Gd P f) : f.1.length < 60 := by
  have := nodup_len (ys := P) h.nf.nd fun x hx => by
    obtain ⟨e, he, rfl⟩ := List.mem_map.mp hx
    exact h.keys e he
  rw [List.length_map] at this
  have := hP.len
  omega
/-! height -/
/-! one behind another -/
end
end Pk
end
section
set_option Elab.async false
set_option linter.all false
set_option maxRecDepth 100000
set_option maxHeartbeats 1000000
namespace Pk
open PySem DL L2
/-! ### steps -/
inductive Deed where
  | cut (n : Int) | lab (drop : Bool) (l : Lab) | ren (ps : List (Str × Str))
def Deed.stp : Deed → Stp
  | .cut n => ⟨"cut", .int n⟩
  | .lab true l => ⟨"drop", eLab l⟩
  | .lab false l => ⟨"unwrap", eLab l⟩
  | .ren ps => ⟨"rename", ePs ps⟩
def has (l : Lab) (k : Str) : Bool := decide (k ∈ l.names) != l.rest
def pget : List (Str × Str) → Str → Str
  | [], k => k
  | p :: ps, k => if p.1 = k then p.2 else pget ps k
def Deed.fate : Deed → Fate
  | .cut n => fun k => (some k, some (n - 1))
  | .lab d l => fun k => if has l k = true then (none, if d = true then some 0 else none) else (some k, none)
  | .ren ps => fun k => (some (pget ps k), none)
def Deed.names : Deed → List Str
  | .cut _ => []
  | .lab _ l => l.names
  | .ren ps => ps.map (·.1) ++ ps.map (·.2)
structure DOk (P : List Str) (d : Deed) : Prop where
  nm : ∀ k ∈ d.names, k ∈ P
  cut : ∀ n, d = .cut n → 1 ≤ n
  len : ∀ b l, d = .lab b l → l.names.length < 1000
  ren : ∀ ps, d = .ren ps → (ps.map (·.1)).Nodup
section
variable {P : List Str}
/-! rows of steps -/
/-! following one label -/
noncomputable def runD : List Deed → Str → Room → Option Str × Room
  | [], k, r => (some k, r)
  | d :: ds, k, r => match d.fate k with
    | (none, m) => (none, lesR r m)
    | (some n, m) => runD ds n (lesR r m)
end
end Pk
end
section
set_option Elab.async false
set_option linter.all false
set_option maxRecDepth 100000
set_option maxHeartbeats 1000000
/-! what a form leaves, and how deep -/
namespace Pk
open PySem DL L2
section
variable {P : List Str} {f : Form}
theorem depth_is (h : Gd P f) : f_depth_in f = if f = NOTH then some 0 else (f_height_in f).map (· + 1) := by
  unfold f_depth_in
  by_cases e : f = NOTH
  · rw [if_pos e, if_pos (by rw [decide_eq_true (show f = ([], false, some 0) from e)]; rfl), if_pos (decide_eq_true (show f = ([], false, some 0) from e))]
  · rw [if_neg e]
    have d : decide (f = ([], false, some 0)) = false := decide_eq_false e
    rw [d]
    cases f_height_in f with
    | none => rfl
    | some m => rfl
end
end Pk
end
section
set_option Elab.async false
set_option linter.all false
set_option maxRecDepth 100000
set_option maxHeartbeats 1000000
/-! deeds as laws tell them, however they write them -/
namespace Pk
open PySem DL L2
inductive Raw where
  | cut (n : Int) | lab (drop : Bool) (ns : List Str) (r : Bool) | ren (ps : List (Str × Str))
structure ROk (T : List Str) (r : Raw) : Prop where
  cut : ∀ n, r = .cut n → 1 ≤ n
  lab : ∀ d ns b, r = .lab d ns b → (∀ x ∈ ns, x ∈ T) ∧ ns.length < 900
  ren : ∀ ps, r = .ren ps → (ps.map (·.1)).Nodup ∧ ps.length < 60 ∧ ∀ p ∈ ps, p.1 ∈ T ∧ p.2 ∈ T
section
variable {T P : List Str} {rs : List Raw} {r : Raw}
end
/-! ### tables: fates that are all alike outside of some names -/
section
variable {T P : List Str} {rs : List Raw} {a b : Fate} {z : Str}
end
end Pk
end
section
set_option Elab.async false
set_option linter.all false
set_option maxRecDepth 100000
set_option maxHeartbeats 1000000
namespace Pk
open PySem DL L2
/-! ### the plain Pipeline of a FORM -/
def Nn (r : Room) : Prop := ∀ n, r = some n → 0 ≤ n
/-- what a FORM's rooms are, beside Gd -/
structure Fm (f : Form) : Prop where
  hn : Nn (f_height_in f)
  gone : ∀ k, (ev f k).1 = none → (ev f k).2 = some 0 ∨ Most (f_height_in f) (ev f k).2
section
variable {P : List Str} {f : Form}
/-! the labels that go with a room -/
end
end Pk
end
section
set_option Elab.async false
set_option linter.all false
set_option maxRecDepth 100000
set_option maxHeartbeats 1000000
namespace Pk
open PySem DL L2
/-! ### how long texts are -/
theorem sl_app (a b : Str) : (a ++ b).length = a.length + b.length := by
  show (a.cps ++ b.cps).size = _
  exact Array.size_append
theorem sum_le {B : Nat} : ∀ (ts : List Str), (∀ t ∈ ts, t.length ≤ B) → (ts.map (·.length)).sum ≤ ts.length * B
  | [], _ => Nat.zero_le _
  | t :: ts, h => by
    have a := h t (List.mem_cons_self ..)
    have b := sum_le ts fun x hx => h x (List.mem_cons_of_mem _ hx)
    rw [List.map_cons, List.sum_cons, List.length_cons, Nat.succ_mul]
    omega
theorem fold_size (z : Str) : ∀ (ts : List Str) (acc : Array Nat), (ts.foldl (fun acc p => acc ++ z.cps ++ p.cps) acc).size = acc.size + (ts.map (·.length)).sum + ts.length * z.length
  | [], acc => by simp
  | t :: ts, acc => by
    rw [List.foldl_cons, fold_size z ts, List.map_cons, List.sum_cons, List.length_cons, Nat.succ_mul, Array.size_append, Array.size_append]
    show acc.size + z.cps.size + t.cps.size + _ + _ = acc.size + (t.cps.size + _) + (_ + z.cps.size)
    omega
theorem join_len (z t : Str) (ts : List Str) : (Txt.join z (t :: ts)).length = t.length + (ts.map (·.length)).sum + ts.length * z.length := fold_size z ts t.cps
theorem join_le (z : Str) : ∀ ts : List Str, (Txt.join z ts).length ≤ (ts.map (·.length)).sum + ts.length * z.length
  | [] => Nat.zero_le _
  | t :: ts => by
    rw [join_len, List.map_cons, List.sum_cons, List.length_cons, Nat.succ_mul]
    omega
theorem join_bd {z : Str} {ts : List Str} {B : Nat} (h : ∀ t ∈ ts, t.length ≤ B) : (Txt.join z ts).length ≤ ts.length * (B + z.length) := by
  have a := join_le z ts
  have b := sum_le ts h
  rw [Nat.mul_add]; omega
theorem joinOk_of {z : Str} {ts : List Str} {B : Nat} (h : ∀ t ∈ ts, t.length ≤ B) (hl : ts.length * (B + z.length) ≤ 16000000) : joinOk z ts := by
  have b := sum_le ts h
  rw [Nat.mul_add] at hl
  exact Nat.le_trans (m := 16000000) (by omega) (by decide)
theorem nS_fin : ∀ k : Fin 1010, (nS ((k.val : Nat) : Int)).length ≤ 10 := by decide +kernel
theorem nS_len {n : Int} (h0 : 0 ≤ n) (h : n ≤ 1002) : (nS n).length ≤ 10 := by
  obtain ⟨k, rfl⟩ := Int.eq_ofNat_of_zero_le h0
  exact nS_fin ⟨k, by omega⟩
theorem log_ok {n : Int} (h0 : 0 ≤ n) (h : n ≤ 1002) : n.natAbs.log2 < 1920 := by
  have : n.natAbs.log2 ≤ n.natAbs := Nat.log2_le_self _
  omega
/-! ### texts of steps -/
noncomputable def ptext (ps : List (Str × Str)) : List Str := ps.map fun (y34 : (Str × Str)) => ((y34.1 ++ ("=" : Str)) ++ y34.2)
noncomputable def dtext : Deed → Str
  | .cut n => ("cut " : Str) ++ nS n
  | .lab true l => ("drop " : Str) ++ f_Labels_text l
  | .lab false l => ("unwrap " : Str) ++ f_Labels_text l
  | .ren ps => ("rename " : Str) ++ (if Txt.join (" " : Str) (ptext ps) = "" then ("-" : Str) else Txt.join (" " : Str) (ptext ps))
/-- what is short enough to be told -/
structure DT (P : List Str) (d : Deed) : Prop where
  ok : DOk P d
  cut : ∀ n, d = .cut n → n ≤ 1002
  lab : ∀ b l, d = .lab b l → l.names.length ≤ 60
  ren : ∀ ps, d = .ren ps → ps.length ≤ 60
def Short (P : List Str) : Prop := ∀ x ∈ P, x.length ≤ 8
section
variable {P : List Str} {f : Form}
theorem un_lab (l : Lab) : un eLab (eLab l) = l ∧ isE eLab (eLab l) := ⟨un_e l, l, rfl⟩
theorem lab_text {l : Lab} (hs : Short P) (hn : ∀ k ∈ l.names, k ∈ P) (hl : l.names.length ≤ 60) : vc_Labels_text l ∧ (f_Labels_text l).length ≤ 1000 := by
  have b : ∀ t ∈ l.names, t.length ≤ 8 := fun t ht => hs t (hn t ht)
  have jb := join_bd (z := (" " : Str)) b
  have z1 : (" " : Str).length = 1 := by decide
  have z2 : ("* - " : Str).length = 4 := by decide
  rw [z1] at jb
  refine ⟨fun _ => ⟨joinOk_of b (by rw [z1]; omega), fun _ => lim_le (by rw [z2]; omega)⟩, ?_⟩
  unfold f_Labels_text
  split
  · split <;> decide
  · split
    · rw [sl_app, z2]; omega
    · omega
theorem pt_len (hs : Short P) {ps : List (Str × Str)} (h : ∀ p ∈ ps, p.1 ∈ P ∧ p.2 ∈ P) : ∀ t ∈ ptext ps, t.length ≤ 20 ∧ 0 < t.length := fun t ht => by
  obtain ⟨p, hp, rfl⟩ := List.mem_map.mp ht
  have a := hs _ (h p hp).1
  have b := hs _ (h p hp).2
  have z : ("=" : Str).length = 1 := by decide
  rw [sl_app, sl_app, z]
  omega
theorem text_is (hs : Short P) {d : Deed} (h : DT P d) : f_Step_text d.stp = dtext d ∧ vc_Step_text d.stp := by
  cases d with
  | cut n =>
    have n0 := h.ok.cut n rfl
    have n1 := h.cut n rfl
    have hl := nS_len (n := n) (by omega) n1
    have e : un eI (D.int n) = n := un_e (e := eI) n
    have hk : decide ((Deed.cut n).stp.kind = ("cut" : Str)) = true := by rw [decide_eq_true]; rfl
    have z : (("cut" : Str) ++ (" " : Str)).length = 4 := by decide
    constructor
    · unfold f_Step_text
      rw [hk, if_pos rfl]
      show ("cut" : Str) ++ (" " : Str) ++ nS (un eI (D.int n)) = ("cut " : Str) ++ nS n
      rw [e, show ("cut" : Str) ++ (" " : Str) = ("cut " : Str) by decide]
    · refine ⟨fun _ => ⟨⟨n, rfl⟩, ?_⟩, fun q => ?_⟩
      · show ((("cut" : Str) ++ (" " : Str)).length ≤ lim ∧ (("cut" : Str)).length ≤ lim ∧ ((un eI (D.int n))).natAbs.log2 < 1920 ∧ (("cut" : Str) ++ (" " : Str) ++ nS (un eI (D.int n))).length ≤ lim)
        rw [e]
        refine ⟨lim_le (by rw [z]; omega), lim_le (by decide), log_ok (by omega) n1, lim_le ?_⟩
        rw [sl_app, z]; omega
      · rw [hk] at q; exact absurd q (by decide)
  | lab b l =>
    obtain ⟨t1, t2⟩ := lab_text hs h.ok.nm (h.lab b l rfl)
    obtain ⟨u1, u2⟩ := un_lab l
    have z : (("drop" : Str) ++ (" " : Str)).length = 5 := by decide
    have z' : (("unwrap" : Str) ++ (" " : Str)).length = 7 := by decide
    cases b with
    | true =>
      have hk : decide ((Deed.lab true l).stp.kind = ("cut" : Str)) = false := by rw [decide_eq_false]; show ¬ (("drop" : Str) = "cut"); decide
      have hk2 : (!decide ((Deed.lab true l).stp.kind = ("rename" : Str))) = true := by show (!decide (("drop" : Str) = ("rename" : Str))) = true; decide
      constructor
      · unfold f_Step_text
        rw [hk, if_neg (by decide), if_pos hk2]
        show ("drop" : Str) ++ (" " : Str) ++ f_Labels_text (un eLab (eLab l)) = ("drop " : Str) ++ f_Labels_text l
        rw [u1, show ("drop" : Str) ++ (" " : Str) = ("drop " : Str) by decide]
      · refine ⟨fun q => by rw [hk] at q; exact absurd q (by decide), fun _ => ⟨fun _ => ⟨lim_le ?_, ⟨u2, ?_⟩, lim_le ?_⟩, fun q => by rw [hk2] at q; exact absurd q (by decide)⟩⟩
        · show ("drop" : Str).length + (" " : Str).length ≤ _; decide
        · show vc_Labels_text (un eLab (eLab l))
          rw [u1]; exact t1
        · show (("drop" : Str) ++ (" " : Str)).length + (f_Labels_text (un eLab (eLab l))).length ≤ _
          rw [u1, z]; omega
    | false =>
      have hk : decide ((Deed.lab false l).stp.kind = ("cut" : Str)) = false := by rw [decide_eq_false]; show ¬ (("unwrap" : Str) = "cut"); decide
      have hk2 : (!decide ((Deed.lab false l).stp.kind = ("rename" : Str))) = true := by show (!decide (("unwrap" : Str) = ("rename" : Str))) = true; decide
      constructor
      · unfold f_Step_text
        rw [hk, if_neg (by decide), if_pos hk2]
        show ("unwrap" : Str) ++ (" " : Str) ++ f_Labels_text (un eLab (eLab l)) = ("unwrap " : Str) ++ f_Labels_text l
        rw [u1, show ("unwrap" : Str) ++ (" " : Str) = ("unwrap " : Str) by decide]
      · refine ⟨fun q => by rw [hk] at q; exact absurd q (by decide), fun _ => ⟨fun _ => ⟨lim_le ?_, ⟨u2, ?_⟩, lim_le ?_⟩, fun q => by rw [hk2] at q; exact absurd q (by decide)⟩⟩
        · show ("unwrap" : Str).length + (" " : Str).length ≤ _; decide
        · show vc_Labels_text (un eLab (eLab l))
          rw [u1]; exact t1
        · show (("unwrap" : Str) ++ (" " : Str)).length + (f_Labels_text (un eLab (eLab l))).length ≤ _
          rw [u1, z']; omega
  | ren ps =>
    have hp : ∀ p ∈ ps, p.1 ∈ P ∧ p.2 ∈ P := fun p hp => ⟨h.ok.nm _ (List.mem_append_left _ (List.mem_map.mpr ⟨p, hp, rfl⟩)), h.ok.nm _ (List.mem_append_right _ (List.mem_map.mpr ⟨p, hp, rfl⟩))⟩
    have l := h.ren ps rfl
    have e : un (eT (e2 eS eS)) (ePs ps) = ps := un_e (e := eT (e2 eS eS)) ps
    have jb := join_bd (z := (" " : Str)) fun t ht => (pt_len hs hp t ht).1
    have pl : (ptext ps).length = ps.length := List.length_map ..
    have z1 : (" " : Str).length = 1 := by decide
    have z2 : ("=" : Str).length = 1 := by decide
    have z3 : (("rename" : Str) ++ (" " : Str)).length = 7 := by decide
    rw [z1, pl] at jb
    have hk : decide ((Deed.ren ps).stp.kind = ("cut" : Str)) = false := by rw [decide_eq_false]; show ¬ (("rename" : Str) = "cut"); decide
    have hk2 : (!decide ((Deed.ren ps).stp.kind = ("rename" : Str))) = false := by show (!decide (("rename" : Str) = ("rename" : Str))) = false; decide
    have ite : (if (!decide (Txt.join (" " : Str) (ptext ps) = ("" : Str))) = true then Txt.join (" " : Str) (ptext ps) else ("-" : Str)) = (if Txt.join (" " : Str) (ptext ps) = "" then ("-" : Str) else Txt.join (" " : Str) (ptext ps)) := by
      by_cases c : Txt.join (" " : Str) (ptext ps) = ""
      · rw [if_pos c, decide_eq_true c]; rfl
      · rw [if_neg c, decide_eq_false c]; rfl
    constructor
    · unfold f_Step_text
      rw [hk, if_neg (by decide), hk2, if_neg (by decide)]
      show f_Step_text_1 (Txt.join (" " : Str) (ptext (un (eT (e2 eS eS)) (ePs ps)))) = _
      rw [e]
      unfold f_Step_text_1 dtext
      rw [ite, show ("rename" : Str) ++ (" " : Str) = ("rename " : Str) by decide]
    · refine ⟨fun q => by rw [hk] at q; exact absurd q (by decide), fun _ => ⟨fun q => by rw [hk2] at q; exact absurd q (by decide), fun _ => ?_⟩⟩
      show ((isE (eT (e2 eS eS)) (ePs ps) ∧ (un (eT (e2 eS eS)) (ePs ps)).length ≤ lim ∧ ∀ y34 ∈ un (eT (e2 eS eS)) (ePs ps), (y34.1.length + ("=" : Str).length ≤ lim) ∧ ((y34.1 ++ ("=" : Str)).length + y34.2.length ≤ lim)) ∧ joinOk (" " : Str) (ptext (un (eT (e2 eS eS)) (ePs ps)))) ∧ vc_Step_text_1 (Txt.join (" " : Str) (ptext (un (eT (e2 eS eS)) (ePs ps))))
      rw [e]
      refine ⟨⟨⟨⟨ps, rfl⟩, lim_le (by omega), fun y hy => ?_⟩, joinOk_of (fun t ht => (pt_len hs hp t ht).1) (by rw [z1, pl]; omega)⟩, lim_le (by decide), lim_le ?_⟩
      · have a := hs _ (hp y hy).1
        have b := hs _ (hp y hy).2
        exact ⟨lim_le (by rw [z2]; omega), lim_le (by rw [sl_app, z2]; omega)⟩
      · rw [ite, z3]
        split
        · decide
        · omega
end
end Pk
end
section
set_option Elab.async false
set_option linter.all false
set_option maxRecDepth 100000
set_option maxHeartbeats 1000000
namespace Pk
open PySem DL L2
section
variable {P : List Str} {f : Form}
/-! ### how great rooms are -/
def Lo (r : Room) : Prop := ∀ n, r = some n → n ≤ 1000
structure Rb (f : Form) : Prop where
  ht : Lo (f_height_in f)
  at_ : ∀ k, Lo (ev f k).2
/-! ### the texts of the plain steps -/
end
end Pk
end
section
set_option Elab.async false
set_option linter.all false
set_option maxRecDepth 100000
set_option maxHeartbeats 1000000
namespace Pk
open PySem DL L2
/-! ### small steps of programs -/
section
variable {Δ : List Sl} {s t : SE} {c : SB} {A S : ST} {d : D} {o : Pg Out}
end
/-! ### texts -/
/-! ### names -/
/-- NAMEs: what the program's own readings say of them, and their signs -/
structure Nms (P : List Str) : Prop where
  nm : ∀ x ∈ P, F_is_name [eS x] = .ret (eB true)
  ok : ∀ x ∈ P, PySem.PyData.strOk x = true
  sg : ∀ x ∈ P, (∀ c ∈ TL.tl x, 97 ≤ c ∧ c ≤ 122) ∧ x.length ≤ 8 ∧ 0 < x.length
theorem Nms.free {P : List Str} (h : Nms P) {x : Str} (hx : x ∈ P) {s : Nat} (hs : s < 97) : s ∉ TL.tl x := fun q => by
  have := ((h.sg x hx).1 s q).1
  omega
section
variable {P : List Str}
/-! ### Labels -/
/-! ### numbers -/
/-! ### pairs -/
end
end Pk
end
section
set_option Elab.async false
set_option linter.all false
set_option maxRecDepth 100000
set_option maxHeartbeats 1000000
namespace Pk
open PySem DL L2
/-! ### steps and Pipelines of their texts -/
/-- deeds as a law writes them: in plain order -/
structure DW (P : List Str) (d : Deed) : Prop where
  cut : ∀ n, d = .cut n → 1 ≤ n ∧ n < 10 ^ 100
  lab : ∀ b l, d = .lab b l → (∀ x ∈ l.names, x ∈ P) ∧ DL.SP l.names ∧ l.names.length ≤ 60
  ren : ∀ ps, d = .ren ps → (∀ p ∈ ps, p.1 ∈ P ∧ p.2 ∈ P ∧ p.1 ≠ p.2) ∧ DL.SP (ps.map (·.1)) ∧ ps.length < 60
section
variable {P : List Str}
end
end Pk
end
section
set_option Elab.async false
set_option linter.all false
set_option maxRecDepth 100000
/-! typed readings: list(text) -/
namespace DL
open PySem L2
def chS (z : Str) : List Str := z.cps.toList.map fun c => ⟨#[c]⟩
theorem signs_ch (z : Str) : signs z = (chS z).map eS := by
  unfold signs chS
  rw [List.map_map]
  rfl
section
variable {Δ : List Sl} {s : SE}
theorem q_listS {x : Str} (hs : s Δ = .ret (eS x)) (h : x.length ≤ lim) : aList s Δ = .ret ((chS x).map eS) := by
  show (s Δ).bind _ = _
  rw [hs]
  have e : itemsV (.str x) = some (signs x) := if_pos h
  show ofO (itemsV (.str x)) = _
  rw [e, signs_ch]; rfl
end
end DL
end
section
set_option Elab.async false
set_option linter.all false
set_option maxRecDepth 100000
set_option maxHeartbeats 1000000
namespace Pg0
open PySem DL L2
open Pk
theorem same_eq : ∀ n, F__law_same n = F_same n
  | 0 => rfl
  | n + 1 => by
    show runF [] 2 4 (B__law_same (F__law_same n)) = _
    rw [same_eq n]
    rfl
noncomputable def f__law_of (u : Unit) (pool : (List Str)) : Pg Str := ((drawI u (pool.length : Int)).bind fun b7 => (asr (((atI pool b7).isSome = true)) (.ret (ixD pool b7))))
theorem t__law_of (u : Unit) (pool : (List Str)) : Ref ((f__law_of u pool).bind fun a => .ret (eS a)) (F__law_of [eU u, (eL eS) pool]) := by
  refine m_run (S := B__law_of) [.v (eU u), .w ((eL eS) pool)] rfl rfl ?_
  exact (show Ref _ ((DL.tRet (c2 ixO (cVw 1) (cCall takeP (aC (cVar 0) (aC (c1 lenO' (cVw 1)) aN))))) [.v (eU u), .w ((eL eS) pool)]) from m_reify (m_retG (m_sub (C := fun a => (c2 ixO a (cCall takeP (aC (cVar 0) (aC (c1 lenO' (cVw 1)) aN))))) hC_c2_0 (m_pure (q_vww rfl) (m_sub (C := fun a => (c2 ixO (fun _ => .ret ((eL eS) pool)) a)) hC_c2_1 (m_callA (m_aC (m_pure (q_var rfl) (m_aC (m_pure (q_1 (q_vww rfl) o_lenL) (m_aN (m_app (f := eI) (r_take u (pool.length : Int)) (fun b7 => (m_asr (fun h8 => (m_pure (q_2 rfl rfl (o_ixLD h8)) (m_end Ref.refl)))))))))))))))))
noncomputable def f__law_mixed_2 (v0 : Unit) (z : ((List Str) × (List Str))) (x : Int) : Pg (((List Str) × (List Str)) ⊕ (List Str)) := ((drawI v0 (z.1.length : Int)).bind fun b9 => (asr (0 ≤ b9 ∧ b9 < (z.1.length : Int) ∧ inR b9 = true ∧ z.2.length < lim) (.ret (.inl ((z.1.eraseIdx b9.toNat), (z.2 ++ [ixD z.1 b9]))))))
theorem b__law_mixed_2 (v0 : Unit) (k1 : Sl) : ∀ z x Δ, (fun (z : ((List Str) × (List Str))) Δ => ∃ w4 : Sl, Δ = [.v (eU v0), k1, .o (.lst (z.1.map eS)), .o (.lst (z.2.map eS)), w4]) z Δ → RefJ (fun (z : ((List Str) × (List Str))) Δ => ∃ w4 : Sl, Δ = [.v (eU v0), k1, .o (.lst (z.1.map eS)), .o (.lst (z.2.map eS)), w4]) (eL eS) (f__law_mixed_2 v0 z x) ((ofO (tgS (.nm 4) (eI x) Δ)).bind (tX (xApp 3 (xPop 2 (cCall takeP (aC (cVar 0) (aC (c1 lenO' (cVw 2)) aN))))))) := by
  rintro z x Δ ⟨w4, rfl⟩ ρ R G hn hc hr
  refine m_tgB (Δ1 := [.v (eU v0), k1, .o (.lst (z.1.map eS)), .o (.lst (z.2.map eS)), .v (eI x)]) rfl ?_
  exact (show Ref _ (((tX (xApp 3 (xPop 2 (cCall takeP (aC (cVar 0) (aC (c1 lenO' (cVw 2)) aN)))))) [.v (eU v0), k1, .o (.lst (z.1.map eS)), .o (.lst (z.2.map eS)), .v (eI x)]).bind G) from (m_apop (f := eS) (xs := z.1) (ys := z.2) rfl rfl (by decide) (m_callA (m_aC (m_pure (q_var rfl) (m_aC (m_pure (q_1 (q_voL rfl) o_lenL) (m_aN (m_app (f := eI) (r_take v0 (z.1.length : Int)) (fun b9 => (m_asr (fun h10 => (m_apopV (f := eS) (xs := z.1) (ys := z.2) (v := b9) rfl rfl (by decide) h10 (m_end (hn ((z.1.eraseIdx b9.toNat), (z.2 ++ [ixD z.1 b9])) _ ⟨(.v (eI x)), rfl⟩)))))))))))))))
noncomputable def f__law_mixed_3 (s3 : (List Str)) : Pg (List Str) := (.ret s3)
theorem b__law_mixed_3 (s3 : (List Str)) (j0 : Sl) (j1 : Sl) (j2 : Sl) (j4 : Sl) : Ref ((f__law_mixed_3 s3).bind fun a => .ret (.rt ((eL eS) a))) ((tRetO 3) [j0, j1, j2, .o (.lst (s3.map eS)), j4]) := m_reify (m_retO rfl (m_end Ref.refl))
noncomputable def f__law_mixed_1 (s0 : Unit) (s1 : (List Str)) (s2 : (List Str)) (s3 : (List Str)) : Pg (List Str) := (asr ((inR (s1.length : Int) = true)) ((loopM (f__law_mixed_2 s0) (rngI 0 (s1.length : Int).toNat) (s2, s3)).bind fun r => match r with | .inl z11 => (f__law_mixed_3 z11.2) | .inr t13 => (.ret t13)))
theorem b__law_mixed_1 (s0 : Unit) (s1 : (List Str)) (s2 : (List Str)) (s3 : (List Str))  : Ref ((f__law_mixed_1 s0 s1 s2 s3).bind fun a => .ret (.rt ((eL eS) a))) ((DL.tSeq (DL.tFor (.nm 4) (aRg1 (c1 lenO' (cVw 1))) (tX (xApp 3 (xPop 2 (cCall takeP (aC (cVar 0) (aC (c1 lenO' (cVw 2)) aN))))))) (tRetO 3)) [.v (eU s0), .v ((eL eS) s1), .o (.lst (s2.map eS)), .o (.lst (s3.map eS)), .e]) := m_reify (m_seqG (m_for (m_asr (fun h14 => (m_pure (q_rg1 (q_1 (q_vw rfl) o_lenL) h14) (m_loop (b__law_mixed_2 s0 (.v ((eL eS) s1))) ⟨(.e), rfl⟩ (fun z11 Δ' hI => (by obtain ⟨j12, rfl⟩ := hI; exact (m_go (m_stage (b__law_mixed_3 z11.2 (.v (eU s0)) (.v ((eL eS) s1)) (.o (.lst (z11.1.map eS))) (j12)))))) (fun t13 => (m_goR (m_end Ref.refl)))))))))
noncomputable def f__law_mixed (u : Unit) (pool : (List Str)) : Pg (List Str) := (f__law_mixed_1 u pool pool ([] : (List Str)))
theorem t__law_mixed (u : Unit) (pool : (List Str)) : Ref ((f__law_mixed u pool).bind fun a => .ret ((eL eS) a)) (F__law_mixed [eU u, (eL eS) pool]) := by
  refine m_run (S := B__law_mixed) [.v (eU u), .v ((eL eS) pool), .e, .e, .e] rfl rfl ?_
  exact (show Ref _ ((DL.tSeq (tPar 2 3 (oL (aList (cVw 1))) (oL (aL aN))) (DL.tSeq (DL.tFor (.nm 4) (aRg1 (c1 lenO' (cVw 1))) (tX (xApp 3 (xPop 2 (cCall takeP (aC (cVar 0) (aC (c1 lenO' (cVw 2)) aN))))))) (tRetO 3))) [.v (eU u), .v ((eL eS) pool), .e, .e, .e]) from m_reify (m_seqG (m_nxP (z_par2 (Δ1 := [.v (eU u), .v ((eL eS) pool), .o (.lst (pool.map eS)), .o (.lst (([] : (List Str)).map eS)), .e]) (o_l (ds := (pool).map eS) (q_listL (q_vw rfl))) (o_l (ds := (([] : (List Str))).map eS) (q_aL q_aN))) (m_go (m_stage (b__law_mixed_1 u pool pool ([] : (List Str)) ))))))
noncomputable def f__law_mixedS_2 (v0 : Unit) (z : ((List Str) × (List Str))) (x : Int) : Pg (((List Str) × (List Str)) ⊕ (List Str)) := ((drawI v0 (z.1.length : Int)).bind fun b21 => (asr (0 ≤ b21 ∧ b21 < (z.1.length : Int) ∧ inR b21 = true ∧ z.2.length < lim) (.ret (.inl ((z.1.eraseIdx b21.toNat), (z.2 ++ [ixD z.1 b21]))))))
theorem b__law_mixedS_2 (v0 : Unit) (k1 : Sl) : ∀ z x Δ, (fun (z : ((List Str) × (List Str))) Δ => ∃ w4 : Sl, Δ = [.v (eU v0), k1, .o (.lst (z.1.map eS)), .o (.lst (z.2.map eS)), w4]) z Δ → RefJ (fun (z : ((List Str) × (List Str))) Δ => ∃ w4 : Sl, Δ = [.v (eU v0), k1, .o (.lst (z.1.map eS)), .o (.lst (z.2.map eS)), w4]) (eL eS) (f__law_mixedS_2 v0 z x) ((ofO (tgS (.nm 4) (eI x) Δ)).bind (tX (xApp 3 (xPop 2 (cCall takeP (aC (cVar 0) (aC (c1 lenO' (cVw 2)) aN))))))) := by
  rintro z x Δ ⟨w4, rfl⟩ ρ R G hn hc hr
  refine m_tgB (Δ1 := [.v (eU v0), k1, .o (.lst (z.1.map eS)), .o (.lst (z.2.map eS)), .v (eI x)]) rfl ?_
  exact (show Ref _ (((tX (xApp 3 (xPop 2 (cCall takeP (aC (cVar 0) (aC (c1 lenO' (cVw 2)) aN)))))) [.v (eU v0), k1, .o (.lst (z.1.map eS)), .o (.lst (z.2.map eS)), .v (eI x)]).bind G) from (m_apop (f := eS) (xs := z.1) (ys := z.2) rfl rfl (by decide) (m_callA (m_aC (m_pure (q_var rfl) (m_aC (m_pure (q_1 (q_voL rfl) o_lenL) (m_aN (m_app (f := eI) (r_take v0 (z.1.length : Int)) (fun b21 => (m_asr (fun h22 => (m_apopV (f := eS) (xs := z.1) (ys := z.2) (v := b21) rfl rfl (by decide) h22 (m_end (hn ((z.1.eraseIdx b21.toNat), (z.2 ++ [ixD z.1 b21])) _ ⟨(.v (eI x)), rfl⟩)))))))))))))))
noncomputable def f__law_mixedS_3 (s3 : (List Str)) : Pg (List Str) := (.ret s3)
theorem b__law_mixedS_3 (s3 : (List Str)) (j0 : Sl) (j1 : Sl) (j2 : Sl) (j4 : Sl) : Ref ((f__law_mixedS_3 s3).bind fun a => .ret (.rt ((eL eS) a))) ((tRetO 3) [j0, j1, j2, .o (.lst (s3.map eS)), j4]) := m_reify (m_retO rfl (m_end Ref.refl))
noncomputable def f__law_mixedS_1 (s0 : Unit) (s1 : Str) (s2 : (List Str)) (s3 : (List Str)) : Pg (List Str) := (asr (((s1.length ≤ lim)) ∧ (inR (s1.length : Int) = true)) ((loopM (f__law_mixedS_2 s0) (rngI 0 (s1.length : Int).toNat) (s2, s3)).bind fun r => match r with | .inl z23 => (f__law_mixedS_3 z23.2) | .inr t25 => (.ret t25)))
theorem b__law_mixedS_1 (s0 : Unit) (s1 : Str) (s2 : (List Str)) (s3 : (List Str))  : Ref ((f__law_mixedS_1 s0 s1 s2 s3).bind fun a => .ret (.rt ((eL eS) a))) ((DL.tSeq (DL.tFor (.nm 4) (aRg1 (c1 lenO' (cVw 1))) (tX (xApp 3 (xPop 2 (cCall takeP (aC (cVar 0) (aC (c1 lenO' (cVw 2)) aN))))))) (tRetO 3)) [.v (eU s0), .v (eS s1), .o (.lst (s2.map eS)), .o (.lst (s3.map eS)), .e]) := m_reify (m_seqG (m_for (m_asr (fun h26 => (m_pure (q_rg1 (q_1 (q_vw rfl) (o_lenS h26.1)) h26.2) (m_loop (b__law_mixedS_2 s0 (.v (eS s1))) ⟨(.e), rfl⟩ (fun z23 Δ' hI => (by obtain ⟨j24, rfl⟩ := hI; exact (m_go (m_stage (b__law_mixedS_3 z23.2 (.v (eU s0)) (.v (eS s1)) (.o (.lst (z23.1.map eS))) (j24)))))) (fun t25 => (m_goR (m_end Ref.refl)))))))))
noncomputable def f__law_mixedS (u : Unit) (pool : Str) : Pg (List Str) := (asr (((pool.length ≤ lim))) (f__law_mixedS_1 u pool (chS pool) ([] : (List Str))))
theorem t__law_mixedS (u : Unit) (pool : Str) : Ref ((f__law_mixedS u pool).bind fun a => .ret ((eL eS) a)) (F__law_mixed [eU u, eS pool]) := by
  refine m_run (S := B__law_mixed) [.v (eU u), .v (eS pool), .e, .e, .e] rfl rfl ?_
  exact (show Ref _ ((DL.tSeq (tPar 2 3 (oL (aList (cVw 1))) (oL (aL aN))) (DL.tSeq (DL.tFor (.nm 4) (aRg1 (c1 lenO' (cVw 1))) (tX (xApp 3 (xPop 2 (cCall takeP (aC (cVar 0) (aC (c1 lenO' (cVw 2)) aN))))))) (tRetO 3))) [.v (eU u), .v (eS pool), .e, .e, .e]) from m_reify (m_seqG (m_asr (fun h27 => (m_nxP (z_par2 (Δ1 := [.v (eU u), .v (eS pool), .o (.lst ((chS pool).map eS)), .o (.lst (([] : (List Str)).map eS)), .e]) (o_l (ds := ((chS pool)).map eS) (q_listS (q_vw rfl) h27)) (o_l (ds := (([] : (List Str))).map eS) (q_aL q_aN))) (m_go (m_stage (b__law_mixedS_1 u pool (chS pool) ([] : (List Str)) ))))))))
noncomputable def f__law_tags_3 (s0 : Unit) (s1 : Int) : Pg (List Str) := ((f__law_mixed s0 [("div" : Str), ("span" : Str), ("p" : Str), ("pre" : Str), ("em" : Str), ("script" : Str), ("all" : Str), ("none" : Str)]).bind fun b31 => (.ret (cutL b31 none (some s1))))
theorem b__law_tags_3 (s0 : Unit) (s1 : Int) (j2 : Sl) : Ref ((f__law_tags_3 s0 s1).bind fun a => .ret (.rt ((eL eS) a))) ((DL.tRet (c2 sl01 (cCall F__law_mixed (aC (cVar 0) (aC (cL (aL (aC (cC (.str "div")) (aC (cC (.str "span")) (aC (cC (.str "p")) (aC (cC (.str "pre")) (aC (cC (.str "em")) (aC (cC (.str "script")) (aC (cC (.str "all")) (aC (cC (.str "none")) aN)))))))))) aN))) (cVar 1))) [.v (eU s0), .v (eI s1), j2]) := m_reify (m_retG (m_sub (C := fun a => (c2 sl01 a (cVar 1))) hC_c2_0 (m_callA (m_aC (m_pure (q_var rfl) (m_aC (m_pure (q_cLL (f := eS) (xs := [("div" : Str), ("span" : Str), ("p" : Str), ("pre" : Str), ("em" : Str), ("script" : Str), ("all" : Str), ("none" : Str)]) (q_aL (q_aC q_C (q_aC q_C (q_aC q_C (q_aC q_C (q_aC q_C (q_aC q_C (q_aC q_C (q_aC q_C q_aN)))))))))) (m_aN (m_app (f := (eL eS)) (t__law_mixed s0 [("div" : Str), ("span" : Str), ("p" : Str), ("pre" : Str), ("em" : Str), ("script" : Str), ("all" : Str), ("none" : Str)]) (fun b31 => (m_sub (C := fun a => (c2 sl01 (fun _ => .ret ((eL eS) b31)) a)) hC_c2_1 (m_pure (q_var rfl) (m_pure (q_2 rfl rfl (show sl01 (eL eS b31) (.int s1) = some (eL eS (cutL b31 none (some s1))) from o_slL)) (m_end Ref.refl))))))))))))))
noncomputable def f__law_tags_2 (s0 : Unit) (s1 : Int) (s2 : Int) : Pg (List Str) := (if (decide (s2 = (1 : Int))) = true then ((f__law_mixed s0 [("a" : Str), ("ab" : Str), ("abc" : Str), ("b" : Str), ("ba" : Str), ("z" : Str), ("zzzzzzzz" : Str), ("y" : Str)]).bind fun b30 => (.ret (cutL b30 none (some s1)))) else (f__law_tags_3 s0 s1))
theorem b__law_tags_2 (s0 : Unit) (s1 : Int) (s2 : Int)  : Ref ((f__law_tags_2 s0 s1 s2).bind fun a => .ret (.rt ((eL eS) a))) ((DL.tSeq (DL.tIf (tB (c2 (eqO false) (cVar 2) (cC (.int 1)))) (DL.tRet (c2 sl01 (cCall F__law_mixed (aC (cVar 0) (aC (cL (aL (aC (cC (.str "a")) (aC (cC (.str "ab")) (aC (cC (.str "abc")) (aC (cC (.str "b")) (aC (cC (.str "ba")) (aC (cC (.str "z")) (aC (cC (.str "zzzzzzzz")) (aC (cC (.str "y")) aN)))))))))) aN))) (cVar 1))) DL.tNil) (DL.tRet (c2 sl01 (cCall F__law_mixed (aC (cVar 0) (aC (cL (aL (aC (cC (.str "div")) (aC (cC (.str "span")) (aC (cC (.str "p")) (aC (cC (.str "pre")) (aC (cC (.str "em")) (aC (cC (.str "script")) (aC (cC (.str "all")) (aC (cC (.str "none")) aN)))))))))) aN))) (cVar 1)))) [.v (eU s0), .v (eI s1), .v (eI s2)]) := m_reify (m_seqG (m_if (m_pure (q_tB (q_2 (q_var rfl) q_C o_eqI)) (m_ite (fun e32 => (m_retG (m_sub (C := fun a => (c2 sl01 a (cVar 1))) hC_c2_0 (m_callA (m_aC (m_pure (q_var rfl) (m_aC (m_pure (q_cLL (f := eS) (xs := [("a" : Str), ("ab" : Str), ("abc" : Str), ("b" : Str), ("ba" : Str), ("z" : Str), ("zzzzzzzz" : Str), ("y" : Str)]) (q_aL (q_aC q_C (q_aC q_C (q_aC q_C (q_aC q_C (q_aC q_C (q_aC q_C (q_aC q_C (q_aC q_C q_aN)))))))))) (m_aN (m_app (f := (eL eS)) (t__law_mixed s0 [("a" : Str), ("ab" : Str), ("abc" : Str), ("b" : Str), ("ba" : Str), ("z" : Str), ("zzzzzzzz" : Str), ("y" : Str)]) (fun b30 => (m_sub (C := fun a => (c2 sl01 (fun _ => .ret ((eL eS) b30)) a)) hC_c2_1 (m_pure (q_var rfl) (m_pure (q_2 rfl rfl (show sl01 (eL eS b30) (.int s1) = some (eL eS (cutL b30 none (some s1))) from o_slL)) (m_goR (m_end Ref.refl)))))))))))))))) (fun e32 => (m_nxP z_nil (m_go (m_stage (b__law_tags_3 s0 s1 (.v (eI s2)))))))))))
noncomputable def f__law_tags_1 (s0 : Unit) (s1 : Int) (s2 : Int) : Pg (List Str) := (if (decide (s2 = (0 : Int))) = true then ((f__law_mixedS s0 ("abcdefgh" : Str)).bind fun b29 => (.ret (cutL b29 none (some s1)))) else (f__law_tags_2 s0 s1 s2))
theorem b__law_tags_1 (s0 : Unit) (s1 : Int) (s2 : Int)  : Ref ((f__law_tags_1 s0 s1 s2).bind fun a => .ret (.rt ((eL eS) a))) ((DL.tSeq (DL.tIf (tB (c2 (eqO false) (cVar 2) (cC (.int 0)))) (DL.tRet (c2 sl01 (cCall F__law_mixed (aC (cVar 0) (aC (cC (.str "abcdefgh")) aN))) (cVar 1))) DL.tNil) (DL.tSeq (DL.tIf (tB (c2 (eqO false) (cVar 2) (cC (.int 1)))) (DL.tRet (c2 sl01 (cCall F__law_mixed (aC (cVar 0) (aC (cL (aL (aC (cC (.str "a")) (aC (cC (.str "ab")) (aC (cC (.str "abc")) (aC (cC (.str "b")) (aC (cC (.str "ba")) (aC (cC (.str "z")) (aC (cC (.str "zzzzzzzz")) (aC (cC (.str "y")) aN)))))))))) aN))) (cVar 1))) DL.tNil) (DL.tRet (c2 sl01 (cCall F__law_mixed (aC (cVar 0) (aC (cL (aL (aC (cC (.str "div")) (aC (cC (.str "span")) (aC (cC (.str "p")) (aC (cC (.str "pre")) (aC (cC (.str "em")) (aC (cC (.str "script")) (aC (cC (.str "all")) (aC (cC (.str "none")) aN)))))))))) aN))) (cVar 1))))) [.v (eU s0), .v (eI s1), .v (eI s2)]) := m_reify (m_seqG (m_if (m_pure (q_tB (q_2 (q_var rfl) q_C o_eqI)) (m_ite (fun e33 => (m_retG (m_sub (C := fun a => (c2 sl01 a (cVar 1))) hC_c2_0 (m_callA (m_aC (m_pure (q_var rfl) (m_aC (m_pure q_C (m_aN (m_app (f := (eL eS)) (t__law_mixedS s0 ("abcdefgh" : Str)) (fun b29 => (m_sub (C := fun a => (c2 sl01 (fun _ => .ret ((eL eS) b29)) a)) hC_c2_1 (m_pure (q_var rfl) (m_pure (q_2 rfl rfl (show sl01 (eL eS b29) (.int s1) = some (eL eS (cutL b29 none (some s1))) from o_slL)) (m_goR (m_end Ref.refl)))))))))))))))) (fun e33 => (m_nxP z_nil (m_go (m_stage (b__law_tags_2 s0 s1 s2 )))))))))
noncomputable def f__law_tags (u : Unit) (many : Int) : Pg (List Str) := ((drawI u (3 : Int)).bind fun b28 => (f__law_tags_1 u many b28))
theorem t__law_tags (u : Unit) (many : Int) : Ref ((f__law_tags u many).bind fun a => .ret ((eL eS) a)) (F__law_tags [eU u, eI many]) := by
  refine m_run (S := B__law_tags) [.v (eU u), .v (eI many), .e] rfl rfl ?_
  exact (show Ref _ ((DL.tSeq (tSet 2 (oV (cCall takeP (aC (cVar 0) (aC (cC (.int 3)) aN))))) (DL.tSeq (DL.tIf (tB (c2 (eqO false) (cVar 2) (cC (.int 0)))) (DL.tRet (c2 sl01 (cCall F__law_mixed (aC (cVar 0) (aC (cC (.str "abcdefgh")) aN))) (cVar 1))) DL.tNil) (DL.tSeq (DL.tIf (tB (c2 (eqO false) (cVar 2) (cC (.int 1)))) (DL.tRet (c2 sl01 (cCall F__law_mixed (aC (cVar 0) (aC (cL (aL (aC (cC (.str "a")) (aC (cC (.str "ab")) (aC (cC (.str "abc")) (aC (cC (.str "b")) (aC (cC (.str "ba")) (aC (cC (.str "z")) (aC (cC (.str "zzzzzzzz")) (aC (cC (.str "y")) aN)))))))))) aN))) (cVar 1))) DL.tNil) (DL.tRet (c2 sl01 (cCall F__law_mixed (aC (cVar 0) (aC (cL (aL (aC (cC (.str "div")) (aC (cC (.str "span")) (aC (cC (.str "p")) (aC (cC (.str "pre")) (aC (cC (.str "em")) (aC (cC (.str "script")) (aC (cC (.str "all")) (aC (cC (.str "none")) aN)))))))))) aN))) (cVar 1)))))) [.v (eU u), .v (eI many), .e]) from m_reify (m_seqG (m_set (m_callA (m_aC (m_pure (q_var rfl) (m_aC (m_pure q_C (m_aN (m_app (f := eI) (r_take u (3 : Int)) (fun b28 => (m_go (m_stage (b__law_tags_1 u many b28 ))))))))))))))
noncomputable def f__law_rows_2 (v0 : Unit) (v1 : (List Str)) (z : ((List (Int × Str)) × Int)) (x : Int) : Pg (((List (Int × Str)) × Int) ⊕ (List (Int × Str))) := ((if (decide (z.2 = (0 : Int))) = true then .ret true else (((drawI v0 (2 : Int)).bind fun b35 => (.ret (decide (b35 = (0 : Int))))))).bind fun b36 => ((if b36 = true then ((.ret (z.2 + (1 : Int)))) else (((drawI v0 z.2).bind fun b38 => (.ret ((1 : Int) + b38))))).bind fun b39 => (asr (z.1.length < lim) ((((f__law_of v0 v1).bind fun b40 => (.ret (b39, b40)))).bind fun b41 => (.ret (.inl ((z.1 ++ [b41]), b39)))))))
theorem b__law_rows_2 (v0 : Unit) (v1 : (List Str)) (k2 : Sl) : ∀ z x Δ, (fun (z : ((List (Int × Str)) × Int)) Δ => ∃ w5 : Sl, Δ = [.v (eU v0), .v ((eL eS) v1), k2, .o (.lst (z.1.map (e2 eI eS))), .v (eI z.2), w5]) z Δ → RefJ (fun (z : ((List (Int × Str)) × Int)) Δ => ∃ w5 : Sl, Δ = [.v (eU v0), .v ((eL eS) v1), k2, .o (.lst (z.1.map (e2 eI eS))), .v (eI z.2), w5]) (eT (e2 eI eS)) (f__law_rows_2 v0 v1 z x) ((ofO (tgS (.nm 5) (eI x) Δ)).bind (DL.tSeq (tSet 4 (oV (cIf (tOr (tB (c2 (eqO false) (cVar 4) (cC (.int 0)))) (tB (c2 (eqO false) (cCall takeP (aC (cVar 0) (aC (cC (.int 2)) aN))) (cC (.int 0))))) (c2 addO (cVar 4) (cC (.int 1))) (c2 addO (cC (.int 1)) (cCall takeP (aC (cVar 0) (aC (cVar 4) aN))))))) (tX (xApp 3 (xE (cTup (aC (cVar 4) (aC (cCall F__law_of (aC (cVar 0) (aC (cVw 1) aN))) aN)))))))) := by
  rintro z x Δ ⟨w5, rfl⟩ ρ R G hn hc hr
  refine m_tgB (Δ1 := [.v (eU v0), .v ((eL eS) v1), k2, .o (.lst (z.1.map (e2 eI eS))), .v (eI z.2), .v (eI x)]) rfl ?_
  exact (show Ref _ (((DL.tSeq (tSet 4 (oV (cIf (tOr (tB (c2 (eqO false) (cVar 4) (cC (.int 0)))) (tB (c2 (eqO false) (cCall takeP (aC (cVar 0) (aC (cC (.int 2)) aN))) (cC (.int 0))))) (c2 addO (cVar 4) (cC (.int 1))) (c2 addO (cC (.int 1)) (cCall takeP (aC (cVar 0) (aC (cVar 4) aN))))))) (tX (xApp 3 (xE (cTup (aC (cVar 4) (aC (cCall F__law_of (aC (cVar 0) (aC (cVw 1) aN))) aN))))))) [.v (eU v0), .v ((eL eS) v1), k2, .o (.lst (z.1.map (e2 eI eS))), .v (eI z.2), .v (eI x)]).bind G) from (m_seqG (m_set (m_sub (C := fun a => cIf a (c2 addO (cVar 4) (cC (.int 1))) (c2 addO (cC (.int 1)) (cCall takeP (aC (cVar 0) (aC (cVar 4) aN))))) hC_cIf (m_sub (C := fun a => tOr a (tB (c2 (eqO false) (cCall takeP (aC (cVar 0) (aC (cC (.int 2)) aN))) (cC (.int 0))))) hC_tOr (m_pure (q_tB (q_2 (q_var rfl) q_C o_eqI)) (m_orK (fun e37 => (m_reify (m_sub (C := fun a => (tB a)) hC_tB_0 (m_sub (C := fun a => (c2 (eqO false) a (cC (.int 0)))) hC_c2_0 (m_callA (m_aC (m_pure (q_var rfl) (m_aC (m_pure q_C (m_aN (m_app (f := eI) (r_take v0 (2 : Int)) (fun b35 => (m_pure (q_2 rfl q_C o_eqI) (m_pure (q_tB rfl) (m_end Ref.refl))))))))))))))) (fun b36 => (m_ifK (f := eI) (fun e43 => (m_reify (m_pure (q_2 (q_var rfl) q_C o_addI) (m_end Ref.refl)))) (fun e43 => (m_reify (m_sub (C := fun a => (c2 addO (cC (.int 1)) a)) hC_c2_1 (m_callA (m_aC (m_pure (q_var rfl) (m_aC (m_pure (q_var rfl) (m_aN (m_app (f := eI) (r_take v0 z.2) (fun b38 => (m_pure (q_2 q_C rfl o_addI) (m_end Ref.refl))))))))))))) (fun b39 => (m_go (m_asr (fun h42 => (m_xappM (f := (e2 eI eS)) (xs := z.1) rfl h42 (m_reify (m_tupA (m_aC (m_pure (q_var rfl) (m_aC (m_callA (m_aC (m_pure (q_var rfl) (m_aC (m_pure (q_vw rfl) (m_aN (m_app (f := eS) (t__law_of v0 v1) (fun b40 => (m_aN (m_lenP (m_end Ref.refl)))))))))))))))) (fun b41 => (m_end (hn ((z.1 ++ [b41]), b39) _ ⟨(.v (eI x)), rfl⟩)))))))))))))))))
noncomputable def f__law_rows_3 (s3 : (List (Int × Str))) : Pg (List (Int × Str)) := (.ret s3)
theorem b__law_rows_3 (s3 : (List (Int × Str))) (j0 : Sl) (j1 : Sl) (j2 : Sl) (j4 : Sl) (j5 : Sl) : Ref ((f__law_rows_3 s3).bind fun a => .ret (.rt ((eT (e2 eI eS)) a))) ((tFrz 3 (DL.tRet (c1 tupO (cVw 3)))) [j0, j1, j2, .o (.lst (s3.map (e2 eI eS))), j4, j5]) := m_reify (m_frz (Δ1 := [j0, j1, j2, .v ((eL (e2 eI eS)) s3), j4, j5]) rfl (m_retG (m_pure (q_1 (q_vw rfl) o_tupL) (m_end Ref.refl))))
noncomputable def f__law_rows_1 (s0 : Unit) (s1 : (List Str)) (s2 : Int) (s3 : (List (Int × Str))) (s4 : Int) : Pg (List (Int × Str)) := ((drawI s0 (s2 + (1 : Int))).bind fun b34 => (asr ((inR b34 = true)) ((loopM (f__law_rows_2 s0 s1) (rngI 0 b34.toNat) (s3, s4)).bind fun r => match r with | .inl z44 => (f__law_rows_3 z44.1) | .inr t46 => (.ret t46))))
theorem b__law_rows_1 (s0 : Unit) (s1 : (List Str)) (s2 : Int) (s3 : (List (Int × Str))) (s4 : Int)  : Ref ((f__law_rows_1 s0 s1 s2 s3 s4).bind fun a => .ret (.rt ((eT (e2 eI eS)) a))) ((DL.tSeq (DL.tFor (.nm 5) (aRg1 (cCall takeP (aC (cVar 0) (aC (c2 addO (cVar 2) (cC (.int 1))) aN)))) (DL.tSeq (tSet 4 (oV (cIf (tOr (tB (c2 (eqO false) (cVar 4) (cC (.int 0)))) (tB (c2 (eqO false) (cCall takeP (aC (cVar 0) (aC (cC (.int 2)) aN))) (cC (.int 0))))) (c2 addO (cVar 4) (cC (.int 1))) (c2 addO (cC (.int 1)) (cCall takeP (aC (cVar 0) (aC (cVar 4) aN))))))) (tX (xApp 3 (xE (cTup (aC (cVar 4) (aC (cCall F__law_of (aC (cVar 0) (aC (cVw 1) aN))) aN)))))))) (tFrz 3 (DL.tRet (c1 tupO (cVw 3))))) [.v (eU s0), .v ((eL eS) s1), .v (eI s2), .o (.lst (s3.map (e2 eI eS))), .v (eI s4), .e]) := m_reify (m_seqG (m_for (m_sub (C := fun a => (aRg1 a)) hC_aRg1_0 (m_callA (m_aC (m_pure (q_var rfl) (m_aC (m_pure (q_2 (q_var rfl) q_C o_addI) (m_aN (m_app (f := eI) (r_take s0 (s2 + (1 : Int))) (fun b34 => (m_asr (fun h47 => (m_pure (q_rg1 rfl h47) (m_loop (b__law_rows_2 s0 s1 (.v (eI s2))) ⟨(.e), rfl⟩ (fun z44 Δ' hI => (by obtain ⟨j45, rfl⟩ := hI; exact (m_go (m_stage (b__law_rows_3 z44.1 (.v (eU s0)) (.v ((eL eS) s1)) (.v (eI s2)) (.v (eI z44.2)) (j45)))))) (fun t46 => (m_goR (m_end Ref.refl))))))))))))))))))
noncomputable def f__law_rows (u : Unit) (tags : (List Str)) (most : Int) : Pg (List (Int × Str)) := (f__law_rows_1 u tags most ([] : (List (Int × Str))) (0 : Int))
theorem t__law_rows (u : Unit) (tags : (List Str)) (most : Int) : Ref ((f__law_rows u tags most).bind fun a => .ret ((eT (e2 eI eS)) a)) (F__law_rows [eU u, (eL eS) tags, eI most]) := by
  refine m_run (S := B__law_rows) [.v (eU u), .v ((eL eS) tags), .v (eI most), .e, .e, .e] rfl rfl ?_
  exact (show Ref _ ((DL.tSeq (tPar 3 4 (oL (aL aN)) (oV (cC (.int 0)))) (DL.tSeq (DL.tFor (.nm 5) (aRg1 (cCall takeP (aC (cVar 0) (aC (c2 addO (cVar 2) (cC (.int 1))) aN)))) (DL.tSeq (tSet 4 (oV (cIf (tOr (tB (c2 (eqO false) (cVar 4) (cC (.int 0)))) (tB (c2 (eqO false) (cCall takeP (aC (cVar 0) (aC (cC (.int 2)) aN))) (cC (.int 0))))) (c2 addO (cVar 4) (cC (.int 1))) (c2 addO (cC (.int 1)) (cCall takeP (aC (cVar 0) (aC (cVar 4) aN))))))) (tX (xApp 3 (xE (cTup (aC (cVar 4) (aC (cCall F__law_of (aC (cVar 0) (aC (cVw 1) aN))) aN)))))))) (tFrz 3 (DL.tRet (c1 tupO (cVw 3)))))) [.v (eU u), .v ((eL eS) tags), .v (eI most), .e, .e, .e]) from m_reify (m_seqG (m_nxP (z_par2 (Δ1 := [.v (eU u), .v ((eL eS) tags), .v (eI most), .o (.lst (([] : (List (Int × Str))).map (e2 eI eS))), .v (eI (0 : Int)), .e]) (o_l (ds := (([] : (List (Int × Str)))).map (e2 eI eS)) (q_aL q_aN)) (o_v (d := eI (0 : Int)) q_C)) (m_go (m_stage (b__law_rows_1 u tags most ([] : (List (Int × Str))) (0 : Int) ))))))
end Pg0
end
section
set_option Elab.async false
set_option linter.all false
set_option maxRecDepth 1000000
namespace Q03
open PySem DL L2 Pk Pg0
theorem hand : F__law_by_hand_right [] = .ret (eB true) := isT_is (by decide +kernel)
end Q03
end
section
set_option Elab.async false
set_option linter.all false
set_option maxRecDepth 1000000
set_option maxHeartbeats 1000000
namespace DL
open PySem L2
/-- is a sign among the signs of a text -/
def sgn (x w : Str) : Bool := decide (x.cps.toList.headD 0 ∈ w.cps.toList)
theorem o_inSS {x z : Str} (h : x.length = 1) : inO false (eS x) (eS z) = some (eB (sgn x z)) := by
  show (if _ then _ else _) = _
  rw [if_pos (show x.cps.size = 1 from h)]
  rfl
theorem o_slS1 {z : Str} {i : Int} (h : z.length ≤ lim) : sl10 (eS z) (.int i) = some (eS (cutS z (some i) none)) := if_pos h
end DL
end
section
set_option Elab.async false
set_option linter.all false
set_option maxRecDepth 100000
namespace DL
open PySem L2
theorem y_seqdead {α : Type} {Q : α → Pg Out → Prop} {v : α} {Δ : List Sl} {T : SB} {S1 B : ST} {b : Bool} (ht : T Δ = .ret b) (hb : b = false) (h : Q v (B Δ)) : Q v (DL.tSeq (DL.tIf T S1 DL.tNil) B Δ) := by
  subst hb
  have e : DL.tSeq (DL.tIf T S1 DL.tNil) B Δ = B Δ := by
    show ((T Δ).bind _).bind _ = _
    rw [ht]; rfl
  rw [e]; exact h
end DL
end
section
set_option Elab.async false
set_option linter.all false
set_option maxRecDepth 100000
set_option maxHeartbeats 1000000
/-! deeds in plain order, as rows of a law: (kind, what) -/
namespace Pk
open PySem DL L2
def Deed.row : Deed → Str × D
  | .cut n => ("cut", eI n)
  | .lab true l => ("drop", e2 (eT eS) eB (l.names, l.rest))
  | .lab false l => ("unwrap", e2 (eT eS) eB (l.names, l.rest))
  | .ren ps => ("rename", ePs ps)
abbrev mat (ds : List Deed) : List (Str × D) := ds.map Deed.row
def PyE (n : Nat) (d : D) : Prop := ∃ p, toPy d = some p ∧ p.depth ≤ n ∧ p.canLay0 = true
theorem _root_.DL.EqE.pye {α : Type} [DecidableEq α] {f : α → D} {n m : Nat} {S : α → Prop} (h : EqE f n S) {a : α} (s : S a) (hm : n ≤ m) : PyE m (f a) := by
  obtain ⟨p, h1, h2, h3⟩ := h.py a
  exact ⟨p, h1, Nat.le_trans h2 hm, h3 s⟩
theorem pye_l {α : Type} {f : α → D} {n : Nat} : ∀ {xs : List α}, (∀ x ∈ xs, PyE n (f x)) → ∃ ps, toPyL (xs.map f) = some ps ∧ PyData.depthAll ps ≤ n ∧ PyData.canLayAll0 ps = true
  | [], _ => ⟨[], rfl, Nat.zero_le _, rfl⟩
  | x :: xs, h => by
    obtain ⟨p, h1, h2, h3⟩ := h x (List.mem_cons_self ..)
    obtain ⟨ps, h4, h5, h6⟩ := pye_l (xs := xs) fun y hy => h y (List.mem_cons_of_mem _ hy)
    refine ⟨p :: ps, ?_, ?_, ?_⟩
    · unfold List.map toPyL
      rw [h1]
      show (toPyL (xs.map f)).map _ = _
      rw [h4]; rfl
    · unfold PyData.depthAll; omega
    · unfold PyData.canLayAll0
      rw [h3, h6]; rfl
theorem pyOk_l {α : Type} {f : α → D} {n : Nat} {xs : List α} (h : ∀ x ∈ xs, PyE n (f x)) (hn : n < 64) : pyOk (eL f xs) := by
  obtain ⟨ps, h1, h2, h3⟩ := pye_l h
  refine ⟨.list ps, by unfold eL toPy; rw [h1]; rfl, ?_⟩
  unfold SeqAt.shaped
  rw [show PyData.canLay0 (.list ps) = true from by unfold PyData.canLay0; exact h3]
  rw [decide_eq_true (show PyData.depth (.list ps) ≤ 64 from by unfold PyData.depth; omega)]
  rfl
section
variable {P : List Str} {ds : List Deed} {d : Deed}
end
end Pk
end
section
set_option Elab.async false
set_option linter.all false
set_option maxRecDepth 100000
namespace DL
open PySem L2
theorem o_slS {z : Str} {i : Int} (h : z.length ≤ lim) : sl01 (eS z) (.int i) = some (eS (cutS z none (some i))) := if_pos h
def smul (z : Str) (j : Int) : Str := strRep z j
def smulOk (z : Str) (j : Int) : Prop := z.length ≤ 1000 ∧ j ≤ 1000 ∧ -1000 ≤ j
theorem o_smul {z : Str} {j : Int} (h : smulOk z j) : smulO (eS z) (.int j) = some (eS (smul z j)) := if_pos h
end DL
namespace Q03
open PySem DL L2 Pk Pg0
theorem i_lawtrees (rows : List (Int × Str)) (h : okWood rows) : F__law_trees 16 [eT (e2 eI eS) rows] = .ret (eFo (foOf rows)) := by
  have e := fo_nodes h.1.1
  have s := fo_size h.1.1
  have hg := hgt_le (foOf rows) 1 15 (by decide) (by rw [e]; exact h.2)
  have q := trees_law 16 (foOf rows) 1 (by omega) (by have := h.1.2; omega)
  rw [e] at q
  exact q
def sameOk40 (a b : D) : Prop := a = b ∧ Pl 39 a
theorem u_same40 (a b : D) (h : sameOk40 a b) : F__law_same 40 [eD a, eD b] = .ret (eB (sameF a b)) := by
  rw [same_eq]
  obtain ⟨rfl, hp⟩ := h
  exact e_same 39 _ hp
/-! the law's own text of trees -/
def isN : Fo → Bool
  | .nil => true
  | .cons .. => false
def topsF : Fo → List (Str × Fo)
  | .nil => []
  | .cons x p r => (x, p) :: topsF r
theorem enc_tops : ∀ f : Fo, encF f = (topsF f).map (e2 eS eFo)
  | .nil => rfl
  | .cons x p r => by
    show D.tup [.str x, .tup (encF p)] :: encF r = _ :: (topsF r).map _
    rw [enc_tops r]; rfl
def flatL : Fo → List Str
  | .nil => []
  | .cons x p r => (x ++ (if (!isN p) = true then ((("(" : Str) ++ Txt.join (" " : Str) (flatL p)) ++ (")" : Str)) else ("" : Str))) :: flatL r
theorem flat_tops : ∀ f : Fo, flatL f = (topsF f).map fun y => y.1 ++ (if (!isN y.2) = true then ((("(" : Str) ++ Txt.join (" " : Str) (flatL y.2)) ++ (")" : Str)) else ("" : Str))
  | .nil => rfl
  | .cons x p r => by
    show _ :: flatL r = _ :: (topsF r).map _
    rw [flat_tops r]
def flatF (f : Fo) : Str := if (!isN f) = true then Txt.join (" " : Str) (flatL f) else ("-" : Str)
def wF : Fo → Nat
  | .nil => 0
  | .cons x p r => x.length + 4 + wF p + wF r
theorem flat_len : ∀ f : Fo, ((flatL f).map (·.length)).sum + (flatL f).length ≤ wF f
  | .nil => Nat.le_refl _
  | .cons x p r => by
    have hp := flat_len p
    have hr := flat_len r
    have jl := join_le (" " : Str) (flatL p)
    have l1 : (" " : Str).length = 1 := rfl
    rw [l1, Nat.mul_one] at jl
    show ((List.map (·.length) (_ :: flatL r)).sum) + (_ :: flatL r).length ≤ x.length + 4 + wF p + wF r
    rw [List.map_cons, List.sum_cons, List.length_cons, sl_app]
    have : (if (!isN p) = true then ((("(" : Str) ++ Txt.join (" " : Str) (flatL p)) ++ (")" : Str)) else ("" : Str)).length ≤ 2 + wF p := by
      split
      · rw [sl_app, sl_app]
        have a : ("(" : Str).length = 1 := rfl
        have b : (")" : Str).length = 1 := rfl
        omega
      · exact Nat.zero_le _
    omega
theorem join_w (f : Fo) : (Txt.join (" " : Str) (flatL f)).length ≤ wF f ∧ ((flatL f).map (·.length)).sum + (flatL f).length * (" " : Str).length ≤ wF f := by
  have hp := flat_len f
  have jl := join_le (" " : Str) (flatL f)
  have l1 : (" " : Str).length = 1 := rfl
  rw [l1, Nat.mul_one] at jl
  rw [l1, Nat.mul_one]
  omega
theorem tops_mem : ∀ (f : Fo) (y : Str × Fo), y ∈ topsF f → hgt y.2 + 1 ≤ hgt f ∧ y.1.length + 4 + wF y.2 ≤ wF f
  | .nil, y, h => nomatch h
  | .cons x p r, y, h => by
    have g1 : hgt p + 1 ≤ hgt (.cons x p r) := Nat.le_max_left _ _
    have g2 : hgt r ≤ hgt (.cons x p r) := Nat.le_max_right _ _
    have w : wF (.cons x p r) = x.length + 4 + wF p + wF r := rfl
    rcases List.mem_cons.mp (show y ∈ (x, p) :: topsF r from h) with rfl | h
    · exact ⟨g1, by show x.length + 4 + wF p ≤ _; omega⟩
    · obtain ⟨a, b⟩ := tops_mem r y h
      exact ⟨by omega, by omega⟩
theorem tops_len : ∀ f : Fo, (topsF f).length ≤ wF f
  | .nil => Nat.le_refl _
  | .cons x p r => by
    have := tops_len r
    show (topsF r).length + 1 ≤ x.length + 4 + wF p + wF r
    omega
def decFo : (f g : Fo) → Decidable (f = g)
  | .nil, .nil => .isTrue rfl
  | .nil, .cons _ _ _ => .isFalse fun e => nomatch e
  | .cons _ _ _, .nil => .isFalse fun e => nomatch e
  | .cons x p r, .cons y q s =>
    if h : x = y then
      match decFo p q with
      | .isTrue hp => match decFo r s with
        | .isTrue hr => .isTrue (by rw [h, hp, hr])
        | .isFalse hr => .isFalse fun e => hr (by injection e)
      | .isFalse hp => .isFalse fun e => hp (by injection e)
    else .isFalse fun e => h (by injection e)
instance : DecidableEq Fo := decFo
def pyF : Fo → List PyData
  | .nil => []
  | .cons x p r => .tuple [.str x, .tuple (pyF p)] :: pyF r
theorem py_is : ∀ f : Fo, toPyL (encF f) = some (pyF f)
  | .nil => rfl
  | .cons x p r => by
    have a := py_is p
    have b := py_is r
    show toPyL (D.tup [.str x, .tup (encF p)] :: encF r) = _
    unfold toPyL
    have t : toPy (D.tup [.str x, .tup (encF p)]) = some (.tuple [.str x, .tuple (pyF p)]) := by
      unfold toPy toPyL
      show ((toPy (.str x)).bind _).map _ = _
      unfold toPy
      show ((toPyL [.tup (encF p)]).map _).map _ = _
      unfold toPyL
      unfold toPy
      rw [a]
      rfl
    rw [t]
    show (toPyL (encF r)).map _ = _
    rw [b]; rfl
theorem eqv_is : ∀ f g : Fo, PyData.eqvAll (pyF f) (pyF g) = decide (f = g)
  | .nil, .nil => rfl
  | .nil, .cons _ _ _ => by unfold pyF PyData.eqvAll; rfl
  | .cons _ _ _, .nil => by unfold pyF PyData.eqvAll; rfl
  | .cons x p r, .cons y q s => by
    have a := eqv_is p q
    have b := eqv_is r s
    unfold pyF
    unfold PyData.eqvAll
    have t : PyData.eqv (.tuple [.str x, .tuple (pyF p)]) (.tuple [.str y, .tuple (pyF q)]) = (decide (x = y) && decide (p = q)) := by
      unfold PyData.eqv
      unfold PyData.eqvAll
      unfold PyData.eqv
      unfold PyData.eqvAll
      unfold PyData.eqv
      rw [a]
      unfold PyData.eqvAll
      rw [Bool.and_true]
      by_cases e : x = y <;> simp [e]
    rw [t, b]
    by_cases e1 : x = y <;> by_cases e2 : p = q <;> by_cases e3 : r = s <;> simp [e1, e2, e3]
def inFo (T : Str → Prop) : Fo → Prop
  | .nil => True
  | .cons x p r => T x ∧ inFo T p ∧ inFo T r
def okFoEq (f : Fo) : Prop := inFo (fun x => PySem.PyData.strOk x = true) f ∧ hgt f ≤ 20
theorem depth_is : ∀ f : Fo, PyData.depthAll (pyF f) ≤ 2 * hgt f
  | .nil => Nat.zero_le _
  | .cons x p r => by
    have a := depth_is p
    have b := depth_is r
    have g1 : hgt p + 1 ≤ hgt (.cons x p r) := Nat.le_max_left _ _
    have g2 : hgt r ≤ hgt (.cons x p r) := Nat.le_max_right _ _
    unfold pyF
    simp only [PyData.depthAll, PyData.depth]
    omega
theorem lay_is : ∀ f : Fo, inFo (fun x => PySem.PyData.strOk x = true) f → PyData.canLayAll0 (pyF f) = true
  | .nil, _ => rfl
  | .cons x p r, h => by
    have a := lay_is p h.2.1
    have b := lay_is r h.2.2
    have c := h.1
    unfold pyF
    simp only [PyData.canLayAll0, PyData.canLay0, a, b, Bool.and_true, Bool.true_and]
    exact c
theorem o_eqFo {neg : Bool} {f g : Fo} (h : okFoEq f ∧ okFoEq g) : eqO neg (eFo f) (eFo g) = some (.bl (if neg then !decide (f = g) else decide (f = g))) := by
  have sh : ∀ f, okFoEq f → SeqAt.shaped (.tuple (pyF f)) = true := fun f h => by
    have d := depth_is f
    have hh := h.2
    unfold SeqAt.shaped
    have l : PyData.canLay0 (.tuple (pyF f)) = true := by unfold PyData.canLay0; exact lay_is f h.1
    have e : PyData.depth (.tuple (pyF f)) ≤ 64 := by unfold PyData.depth; omega
    rw [l, decide_eq_true e]; rfl
  have t : ∀ f : Fo, toPy (eFo f) = some (.tuple (pyF f)) := fun f => by
    show toPy (.tup (encF f)) = _
    unfold toPy
    rw [py_is f]; rfl
  show eqQ neg (eFo f) (eFo g) = _
  unfold eqQ
  rw [t, t]
  show (if _ then _ else _) = _
  rw [if_pos ⟨sh f h.1, sh g h.2⟩]
  have v : PyData.eqv (.tuple (pyF f)) (.tuple (pyF g)) = decide (f = g) := by unfold PyData.eqv; exact eqv_is f g
  rw [v]
theorem o_neNil {f : Fo} (h : okFoEq f) : eqO true (eFo f) (.tup []) = some (.bl (!isN f)) := by
  have q := o_eqFo (neg := true) (f := f) (g := .nil) ⟨h, trivial, Nat.zero_le _⟩
  rw [show D.tup [] = eFo .nil from rfl, q]
  cases f with
  | nil => rw [decide_eq_true rfl]; rfl
  | cons x p r => rw [decide_eq_false (fun e => nomatch e)]; rfl
theorem str_app {a b : Str} (h : PySem.PyData.strOk a = true) (g : PySem.PyData.strOk b = true) : PySem.PyData.strOk (a ++ b) = true := by
  show (a.cps ++ b.cps).all _ = true
  rw [Array.all_append]
  show (PySem.PyData.strOk a && PySem.PyData.strOk b) = true
  rw [h, g]; rfl
theorem join_two (z x y : Str) (r : List Str) : Txt.join z (x :: y :: r) = (x ++ z) ++ Txt.join z (y :: r) := by
  show Builtin.Str.glued z _ = _ ++ Builtin.Str.glued z _
  rw [StrLaws.glued_eq_join, StrLaws.glued_eq_join]; rfl
theorem join_one (z x : Str) : Txt.join z [x] = x := by
  show Builtin.Str.glued z _ = _
  rw [StrLaws.glued_eq_join]; rfl
theorem str_join {z : Str} (hz : PySem.PyData.strOk z = true) : ∀ xs : List Str, (∀ x ∈ xs, PySem.PyData.strOk x = true) → PySem.PyData.strOk (Txt.join z xs) = true
  | [], _ => by rw [show Txt.join z [] = ("" : Str) from rfl]; decide +kernel
  | [x], h => by rw [join_one]; exact h x (List.mem_cons_self ..)
  | x :: y :: r, h => by
    rw [join_two]
    exact str_app (str_app (h x (List.mem_cons_self ..)) hz) (str_join hz (y :: r) fun w hw => h w (List.mem_cons_of_mem _ hw))
theorem flat_str : ∀ f : Fo, inFo (fun x => PySem.PyData.strOk x = true) f → ∀ x ∈ flatL f, PySem.PyData.strOk x = true
  | .nil, _, x, h => nomatch h
  | .cons n p r, hi, x, h => by
    have hp := flat_str p hi.2.1
    have hr := flat_str r hi.2.2
    rcases List.mem_cons.mp (show x ∈ _ :: flatL r from h) with rfl | h
    · refine str_app hi.1 ?_
      split
      · exact str_app (str_app (by decide +kernel) (str_join (by decide +kernel) _ hp)) (by decide +kernel)
      · decide +kernel
    · exact hr x h
theorem tops_in {T : Str → Prop} : ∀ (f : Fo), inFo T f → ∀ y ∈ topsF f, inFo T y.2
  | .nil, _, y, h => nomatch h
  | .cons x p r, hi, y, h => by
    rcases List.mem_cons.mp (show y ∈ (x, p) :: topsF r from h) with rfl | h
    · exact hi.2.1
    · exact tops_in r hi.2.2 y h
theorem flat_run : ∀ (n : Nat) (f : Fo), hgt f < n → hgt f ≤ 20 → wF f ≤ 90000 → inFo (fun x => PySem.PyData.strOk x = true) f → F__law_flat n [eFo f] = .ret (eS (flatF f))
  | 0, f, h, _, _, _ => absurd h (Nat.not_lt_zero _)
  | n + 1, f, h, h20, hw, hi => by
    have lm : ∀ {k : Nat}, k ≤ 95000 → k ≤ lim := fun h => lim_le (by omega)
    have la : ("(" : Str).length = 1 := rfl
    have lb : (")" : Str).length = 1 := rfl
    have lc := q_lc0 (Δ := [.v (eFo f), .e, .e, .e]) (tg := .tp [.nm 2, .nm 3]) (vs := [2, 3]) (A := aIt (cVar 0)) (s := c2 addO (cVar 2) (cIf (tB (c2 (eqO true) (cVar 3) (cTup aN))) (c2 addO (c2 addO (cC (.str "(")) (cCall (F__law_flat n) (aC (cVar 3) aN))) (cC (.str ")"))) (cC (.str "")))) (f := e2 eS eFo) (xs := topsF f) (v := fun y : Str × Fo => y.1 ++ (if (!isN y.2) = true then ((("(" : Str) ++ Txt.join (" " : Str) (flatL y.2)) ++ (")" : Str)) else ("" : Str))) (g := eS)
      (by rw [← enc_tops]; rfl) (lm (by have := tops_len f; omega)) (fun y hy => by
        obtain ⟨x, p⟩ := y
        obtain ⟨t1, t2⟩ := tops_mem f (x, p) hy
        have t1 : hgt p + 1 ≤ hgt f := t1
        have t2 : x.length + 4 + wF p ≤ wF f := t2
        have jw := (join_w p).1
        refine ⟨[.v (eFo f), .e, .v (eS x), .v (eFo p)], rfl, ?_⟩
        refine q_2 (q_var rfl) (q_cIf (f := eS) (x := (("(" : Str) ++ Txt.join (" " : Str) (flatL p)) ++ (")" : Str)) (y := ("" : Str)) (b := !isN p) (q_tB (q_2 (q_var rfl) (q_tup q_aN) (o_neNil ⟨tops_in f hi _ hy, by omega⟩))) (fun e => ?_) fun e => rfl) (o_addS ?_)
        · have r := flat_run n p (by omega) (by omega) (by omega) (tops_in f hi _ hy)
          have fe : flatF p = Txt.join (" " : Str) (flatL p) := if_pos e
          rw [fe] at r
          exact q_2 (q_2 q_C (q_call (q_aC (q_var rfl) q_aN) r) (o_addS (lm (by omega)))) q_C (o_addS (lm (by rw [sl_app]; omega)))
        · split
          · rw [sl_app, sl_app]; exact lm (by omega)
          · exact lm (by show x.length + 0 ≤ _; omega))
    rw [← flat_tops] at lc
    have b : B__law_flat (F__law_flat n) [.v (eFo f), .e, .e, .e] = .ret (.rt (eS (flatF f))) := by
      unfold B__law_flat
      refine z_seq (Δ1 := [.v (eFo f), .v (eL eS (flatL f)), .e, .e]) (z_setO (o_v (q_cLL lc))) (z_ret ?_)
      refine q_cIf (f := eS) (x := Txt.join (" " : Str) (flatL f)) (y := ("-" : Str)) (b := !isN f) (q_tB (q_2 (q_var rfl) (q_cLL (f := eS) (xs := []) (q_aL q_aN)) ?_)) (fun e => q_2 q_C (q_vw rfl) (o_joinL (lm (by have := (join_w f).2; omega)))) fun e => rfl
      rw [show eL eS ([] : List Str) = .lst [] from rfl, show eL eS (flatL f) = .lst ((flatL f).map eS) from rfl, o_neE (pyOk_l (n := 5) (fun x hx => eqeS.pye (flat_str f hi x hx) (by decide)) (by decide))]
      cases f <;> rfl
    show ((B__law_flat (F__law_flat n) [.v (eFo f), .e, .e, .e]).bind fun o => match o with
      | .nx _ => .ret .non
      | .rt d => .ret d
      | _ => .fail) = _
    rw [b]; rfl
def okFlat (f : Fo) : Prop := hgt f < 16 ∧ wF f ≤ 90000 ∧ inFo (fun x => PySem.PyData.strOk x = true) f
theorem i_lawflat (f : Fo) (h : okFlat f) : F__law_flat 16 [eFo f] = .ret (eS (flatF f)) := flat_run 16 f h.1 (by have := h.1; omega) h.2.1 h.2.2
end Q03
end
section
set_option Elab.async false
set_option linter.all false
set_option maxRecDepth 100000
/-! typed readings: f(a, x=b), the names that fresh_name tries -/
namespace DL
open PySem L2
section
variable {Δ : List Sl} {A C : SA} {ds es : List D} {d : D}
end
def letS : Str := "abcdefghijklmnopqrstuvwxyz"
def freshN : List Str := chS letS ++ (chS letS).flatMap fun a => (chS letS).map fun b => a ++ b
end DL
end
section
set_option Elab.async false
set_option linter.all false
set_option maxRecDepth 100000
set_option maxHeartbeats 1000000
namespace Q03
open PySem DL L2
open Pk Pg0
noncomputable def f_text_of_1  (z : (Str × Int)) (x : (Int × Str)) : (Str × Int) := (((z.1 ++ (if (decide (z.2 < x.1)) = true then ("(" : Str) else ((smul (")" : Str) (z.2 - x.1)) ++ (" " : Str)))) ++ x.2), x.1)
def vc_text_of_1  (z : (Str × Int)) (x : (Int × Str)) : Prop := (((((decide (z.2 < x.1)) = false → ((smulOk (")" : Str) (z.2 - x.1))) ∧ ((smul (")" : Str) (z.2 - x.1)).length + (" " : Str).length ≤ lim))) ∧ (z.1.length + (if (decide (z.2 < x.1)) = true then ("(" : Str) else ((smul (")" : Str) (z.2 - x.1)) ++ (" " : Str))).length ≤ lim)) ∧ ((z.1 ++ (if (decide (z.2 < x.1)) = true then ("(" : Str) else ((smul (")" : Str) (z.2 - x.1)) ++ (" " : Str)))).length + x.2.length ≤ lim))
theorem b_text_of_1  (k0 : Sl) : ∀ z x Δ, (fun (z : (Str × Int)) Δ => ∃ w3 w4 : Sl, Δ = [k0, .v (eS z.1), .v (eI z.2), w3, w4]) z Δ → vc_text_of_1  z x → RefN (fun (z : (Str × Int)) Δ => ∃ w3 w4 : Sl, Δ = [k0, .v (eS z.1), .v (eI z.2), w3, w4]) (f_text_of_1  z x) ((ofO (tgS (.tp [(.nm 3), (.nm 4)]) ((e2 eI eS) x) Δ)).bind (DL.tSeq (tSet 1 (oV (c2 addO (c2 addO (cVar 1) (cIf (tB (c2 (coO2 .Gt) (cVar 3) (cVar 2))) (cC (.str "(")) (c2 addO (c2 smulO (cC (.str ")")) (c2 subO (cVar 2) (cVar 3))) (cC (.str " "))))) (cVar 4)))) (tSet 2 (oV (cVar 3))))) := by
  rintro z x Δ ⟨w3, w4, rfl⟩ h
  refine y_tg (Δ1 := [k0, .v (eS z.1), .v (eI z.2), .v (eI x.1), .v (eS x.2)]) rfl ?_
  exact (show RefN (fun (z : (Str × Int)) Δ => ∃ w3 w4 : Sl, Δ = [k0, .v (eS z.1), .v (eI z.2), w3, w4]) (((z.1 ++ (if (decide (z.2 < x.1)) = true then ("(" : Str) else ((smul (")" : Str) (z.2 - x.1)) ++ (" " : Str)))) ++ x.2), x.1) _ from (y_seq (Δ1 := [k0, .v (eS ((z.1 ++ (if (decide (z.2 < x.1)) = true then ("(" : Str) else ((smul (")" : Str) (z.2 - x.1)) ++ (" " : Str)))) ++ x.2)), .v (eI z.2), .v (eI x.1), .v (eS x.2)]) (z_setO (o_v (d := eS ((z.1 ++ (if (decide (z.2 < x.1)) = true then ("(" : Str) else ((smul (")" : Str) (z.2 - x.1)) ++ (" " : Str)))) ++ x.2)) (q_2 (q_2 (q_var rfl) (q_cIf (f := eS) (x := ("(" : Str)) (y := ((smul (")" : Str) (z.2 - x.1)) ++ (" " : Str))) (b := (decide (z.2 < x.1))) (q_tB (q_2 (q_var rfl) (q_var rfl) o_gtI2)) (fun ee0 => q_C) (fun ee0 => (q_2 (q_2 q_C (q_2 (q_var rfl) (q_var rfl) o_subI) (o_smul (h.1.1 ee0).1)) q_C (o_addS (h.1.1 ee0).2)))) (o_addS h.1.2)) (q_var rfl) (o_addS h.2)))) (y_nx (Δ1 := [k0, .v (eS ((z.1 ++ (if (decide (z.2 < x.1)) = true then ("(" : Str) else ((smul (")" : Str) (z.2 - x.1)) ++ (" " : Str)))) ++ x.2)), .v (eI x.1), .v (eI x.1), .v (eS x.2)]) (z_setO (o_v (d := eI x.1) (q_var rfl))) ⟨_, .inl rfl, ⟨(.v (eI x.1)), (.v (eS x.2)), rfl⟩⟩)))
noncomputable def f_text_of (rows : (List (Int × Str))) : Str := (if (decide ((rows.length : Int) = (0 : Int))) = true then ("-" : Str) else ((List.foldl f_text_of_1 ((ixD rows (0 : Int)).2, (1 : Int)) (rows.drop 1)).1 ++ (smul (")" : Str) ((List.foldl f_text_of_1 ((ixD rows (0 : Int)).2, (1 : Int)) (rows.drop 1)).2 - (1 : Int)))))
def vc_text_of (rows : (List (Int × Str))) : Prop := ((decide ((rows.length : Int) = (0 : Int))) = false → (((((atI rows (0 : Int)).isSome = true)))) ∧ ((foldOk f_text_of_1 vc_text_of_1 (rows.drop 1) ((ixD rows (0 : Int)).2, (1 : Int))) ∧ (((smulOk (")" : Str) ((List.foldl f_text_of_1 ((ixD rows (0 : Int)).2, (1 : Int)) (rows.drop 1)).2 - (1 : Int)))) ∧ ((List.foldl f_text_of_1 ((ixD rows (0 : Int)).2, (1 : Int)) (rows.drop 1)).1.length + (smul (")" : Str) ((List.foldl f_text_of_1 ((ixD rows (0 : Int)).2, (1 : Int)) (rows.drop 1)).2 - (1 : Int))).length ≤ lim))))
theorem b_text_of (rows : (List (Int × Str))) (h : vc_text_of rows)  : RetQ eS (f_text_of rows) ((DL.tSeq (DL.tIf (tB (c2 (eqO false) (c1 lenO' (cVw 0)) (cC (.int 0)))) (DL.tRet (cC (.str "-"))) DL.tNil) (DL.tSeq (tPar 1 2 (oV (c2 ixO (c2 ixO (cVw 0) (cC (.int 0))) (cC (.int 1)))) (oV (cC (.int 1)))) (DL.tSeq (DL.tFor (.tp [(.nm 3), (.nm 4)]) (aIt (c2 sl10 (cVw 0) (cC (.int 1)))) (DL.tSeq (tSet 1 (oV (c2 addO (c2 addO (cVar 1) (cIf (tB (c2 (coO2 .Gt) (cVar 3) (cVar 2))) (cC (.str "(")) (c2 addO (c2 smulO (cC (.str ")")) (c2 subO (cVar 2) (cVar 3))) (cC (.str " "))))) (cVar 4)))) (tSet 2 (oV (cVar 3))))) (DL.tRet (c2 addO (cVar 1) (c2 smulO (cC (.str ")")) (c2 subO (cVar 2) (cC (.int 1))))))))) [.v ((eT (e2 eI eS)) rows), .e, .e, .e, .e]) := by
  exact (show RetQ eS (if (decide ((rows.length : Int) = (0 : Int))) = true then ("-" : Str) else ((List.foldl f_text_of_1 ((ixD rows (0 : Int)).2, (1 : Int)) (rows.drop 1)).1 ++ (smul (")" : Str) ((List.foldl f_text_of_1 ((ixD rows (0 : Int)).2, (1 : Int)) (rows.drop 1)).2 - (1 : Int))))) _ from (y_seqif (v := ("-" : Str)) (w := ((List.foldl f_text_of_1 ((ixD rows (0 : Int)).2, (1 : Int)) (rows.drop 1)).1 ++ (smul (")" : Str) ((List.foldl f_text_of_1 ((ixD rows (0 : Int)).2, (1 : Int)) (rows.drop 1)).2 - (1 : Int))))) (b := (decide ((rows.length : Int) = (0 : Int)))) (q_tB (q_2 (q_1 (q_vw rfl) o_lenT) q_C o_eqI)) (fun ee0 => (y_seqret (show _ = Pg.ret (eS ("-" : Str)) from q_C) rfl)) (fun ee0 => (y_seqnil (y_seq (Δ1 := [.v ((eT (e2 eI eS)) rows), .v (eS (ixD rows (0 : Int)).2), .v (eI (1 : Int)), .e, .e]) (z_par2 (Δ1 := [.v ((eT (e2 eI eS)) rows), .v (eS (ixD rows (0 : Int)).2), .v (eI (1 : Int)), .e, .e]) (o_v (d := eS (ixD rows (0 : Int)).2) (q_2 (q_2 (q_vw rfl) q_C (o_ixTD (h ee0).1)) q_C rfl)) (o_v (d := eI (1 : Int)) q_C)) (y_for (I := (fun (zi1 : (Str × Int)) Δ => ∃ zi1w3 zi1w4 : Sl, Δ = [.v ((eT (e2 eI eS)) rows), .v (eS zi1.1), .v (eI zi1.2), zi1w3, zi1w4])) (e := (e2 eI eS)) (b_text_of_1  (.v ((eT (e2 eI eS)) rows))) (q_itT (q_2 (q_vw rfl) q_C (o_cutDropT (n := 1)))) ⟨(.e), (.e), rfl⟩ (h ee0).2.1 (fun Δ1 hI => (by obtain ⟨j2, j3, rfl⟩ := hI; exact (y_ret (show _ = Pg.ret (eS ((List.foldl f_text_of_1 ((ixD rows (0 : Int)).2, (1 : Int)) (rows.drop 1)).1 ++ (smul (")" : Str) ((List.foldl f_text_of_1 ((ixD rows (0 : Int)).2, (1 : Int)) (rows.drop 1)).2 - (1 : Int))))) from (q_2 (q_var rfl) (q_2 q_C (q_2 (q_var rfl) q_C o_subI) (o_smul (h ee0).2.2.1)) (o_addS (h ee0).2.2.2))) rfl)))))))))
theorem t_text_of (rows : (List (Int × Str))) (h : vc_text_of rows) : F_text_of [(eT (e2 eI eS)) rows] = .ret (eS (f_text_of rows)) := by
  refine (runF_at [.v ((eT (e2 eI eS)) rows), .e, .e, .e, .e] rfl rfl).trans ?_
  unfold B_text_of
  rw [show _ = _ from b_text_of rows h]
  rfl
noncomputable def f_Forest_text (self : For) : Str := (f_text_of self.rows)
def vc_Forest_text (self : For) : Prop := (vc_text_of self.rows)
theorem b_Forest_text (self : For) (h : vc_Forest_text self)  : RetQ eS (f_Forest_text self) ((DL.tRet (cCall F_text_of (aC (c1 (fldO 3 "own_rows") (cVar 0)) aN))) [.v (eFor self)]) := by
  exact (show RetQ eS (f_text_of self.rows) _ from (y_ret (show _ = Pg.ret (eS (f_text_of self.rows)) from (q_call (q_aC (q_1 (q_var rfl) (o_fld_Forest_own_rows _)) q_aN) (t_text_of self.rows h))) rfl))
theorem t_Forest_text (self : For) (h : vc_Forest_text self) : F_Forest_text [eFor self] = .ret (eS (f_Forest_text self)) := by
  refine (runF_at [.v (eFor self)] rfl rfl).trans ?_
  unfold B_Forest_text
  rw [show _ = _ from b_Forest_text self h]
  rfl
end Q03
end
section
set_option Elab.async false
set_option linter.all false
set_option maxRecDepth 1000000
set_option maxHeartbeats 1000000
/-! paths of the nodes of rows, and of those that are kept -/
namespace Pk
open PySem DL L2
section
variable {rows : List (Int × Str)}
/-- the depth at a place -/
def dp (rows : List (Int × Str)) (i : Int) : Int := (ixD rows i).1
/-! nodes that are kept -/
def keptB (ps : List Int) (i : Int) : Bool := decide (i ∈ ps)
/-- the number of a kept place -/
def rankP (ps : List Int) (i : Int) : Int := (((List.range i.toNat).filter fun (j : Nat) => decide ((j : Int) ∈ ps)).length : Nat)
def stO (ps : List Int) (rows : List (Int × Str)) (n : Nat) : List Int × List (Int × Str) := (enumL (rows.take n)).foldl (onlyS ps) ([], [])
structure OnlyI (ps : List Int) (rows : List (Int × Str)) (n : Nat) : Prop where
  stk : ∀ d, popD d (stO ps rows n).1 = ((ancP rows n d).reverse.filter (keptB ps)).map (dp rows)
  len : ((stO ps rows n).2.length : Int) = rankP ps (n : Int)
  anc : ∀ d, ancP (stO ps rows n).2 (stO ps rows n).2.length (((popD d (stO ps rows n).1).length : Int) + 1) = ((ancP rows n d).filter (keptB ps)).map (rankP ps)
end
end Pk
end
section
set_option Elab.async false
set_option linter.all false
set_option maxRecDepth 100000
set_option maxHeartbeats 1000000
/-! drawn deeds in plain order -/
namespace Pk
open PySem DL L2
theorem DW.mono {T P : List Str} {d : Deed} (h : DW T d) (hs : ∀ x ∈ T, x ∈ P) : DW P d where
  cut := h.cut
  lab := fun b l e => ⟨fun x hx => hs x ((h.lab b l e).1 x hx), (h.lab b l e).2⟩
  ren := fun ps e => ⟨fun p hp => ⟨hs _ ((h.ren ps e).1 p hp).1, hs _ ((h.ren ps e).1 p hp).2.1, ((h.ren ps e).1 p hp).2.2⟩, (h.ren ps e).2⟩
/-- up to n deeds over names of T, as rows -/
def Mo (Q : Deed → Prop) (T : List Str) (n : Nat) (m : List (Str × D)) : Prop := ∃ ds, m = mat ds ∧ ds.length ≤ n ∧ ∀ d ∈ ds, DW T d ∧ Q d
theorem Mo.of {Q : Deed → Prop} {T : List Str} {n : Nat} {m : List (Str × D)} (hl : m.length ≤ n) (h : ∀ y ∈ m, ∃ d : Deed, y = d.row ∧ DW T d ∧ Q d) : Mo Q T n m := by
  have z : ∀ m : List (Str × D), (∀ y ∈ m, ∃ d : Deed, y = d.row ∧ DW T d ∧ Q d) → ∃ ds, m = mat ds ∧ ∀ d ∈ ds, DW T d ∧ Q d := by
    intro m
    induction m with
    | nil => intro _; exact ⟨[], rfl, fun d hd => nomatch hd⟩
    | cons y m ih =>
      intro h
      obtain ⟨d, e, q⟩ := h y (List.mem_cons_self ..)
      obtain ⟨ds, e2, q2⟩ := ih fun z hz => h z (List.mem_cons_of_mem _ hz)
      refine ⟨d :: ds, by rw [e, e2]; rfl, fun x hx => ?_⟩
      rcases List.mem_cons.mp hx with rfl | hx
      · exact q
      · exact q2 x hx
  obtain ⟨ds, e, q⟩ := z m h
  refine ⟨ds, e, ?_, q⟩
  rw [e, List.length_map] at hl
  exact hl
theorem Mo.len {Q : Deed → Prop} {T : List Str} {n : Nat} {m : List (Str × D)} (h : Mo Q T n m) : m.length ≤ n := by
  obtain ⟨ds, rfl, l, _⟩ := h
  rw [List.length_map]; exact l
theorem Mo.mono {Q R : Deed → Prop} {T P : List Str} {n k : Nat} {m : List (Str × D)} (h : Mo Q T n m) (hs : ∀ x ∈ T, x ∈ P) (hq : ∀ d, Q d → R d) (hn : n ≤ k) : Mo R P k m := by
  obtain ⟨ds, e, l, q⟩ := h
  exact ⟨ds, e, Nat.le_trans l hn, fun d hd => ⟨(q d hd).1.mono hs, hq d (q d hd).2⟩⟩
end Pk
end
section
set_option Elab.async false
set_option linter.all false
set_option maxRecDepth 100000
set_option maxHeartbeats 1000000
namespace Pk
open PySem DL L2
/-! ### paths through deeds -/
def leB : Room → Nat → Bool
  | none, _ => false
  | some r, j => decide (r ≤ (j : Int))
/-- how many of some labels have no greater room -/
noncomputable def cnt (ds : List Deed) (p : List Str) (j : Nat) : Nat := (p.filter fun k => leB (runD ds k none).2 j).length
/-! ### within, by paths -/
section
variable {ds es : List Deed}
end
end Pk
end
section
set_option Elab.async false
set_option linter.all false
set_option maxRecDepth 1000000
set_option maxHeartbeats 1000000
/-! k00 to k15: what their helpers do -/
namespace Pg0
open PySem DL L2 Pk
/-! ### deeds as these laws tell them -/
section
variable {T P : List Str} {rs : List Raw} {r : Raw}
end
/-! ### paths of drawn rows -/
section
variable {rows : List (Int × Str)}
theorem cut_k {α : Type} (xs : List α) {d : Int} (hd : 0 ≤ d) : cutL xs none (some d) = xs.take d.toNat := by
  obtain ⟨k, rfl⟩ := Int.eq_ofNat_of_zero_le hd
  unfold cutL
  have e1 : HT.sIx xs.length 0 none = 0 := rfl
  have e2 : HT.sIx xs.length xs.length (some (k : Int)) = min k xs.length := by
    unfold HT.sIx
    simp
    omega
  rw [e1, e2, List.drop_zero, Nat.sub_zero, Int.toNat_natCast]
  by_cases h : k ≤ xs.length
  · rw [Nat.min_eq_left h]
  · rw [Nat.min_eq_right (by omega), List.take_of_length_le (Nat.le_refl _), List.take_of_length_le (by omega)]
end
end Pg0
end
section
set_option Elab.async false
set_option linter.all false
set_option maxRecDepth 1000000
set_option maxHeartbeats 1000000
/-! k00 to k15: what is drawn -/
namespace Pg0
open PySem DL L2 Pk
def ltrs : List Str := ["a", "b", "c", "d", "e", "f", "g", "h"]
def pl2 : List Str := ["a", "ab", "abc", "b", "ba", "z", "zzzzzzzz", "y"]
def pl3 : List Str := ["div", "span", "p", "pre", "em", "script", "all", "none"]
def nms0 : List Str := ltrs ++ (pl2 ++ (pl3 ++ [("strange" : Str)]))
theorem nms0_pool : Pool nms0 := ⟨by decide, by decide +kernel⟩
structure TN (T : List Str) (n : Nat) : Prop where
  nd : T.Nodup
  len : T.length = n
  sub : ∀ x ∈ T, x ∈ nms0
theorem mix_run {τ : Type} {u : Unit} {pool : List Str} (hl : pool.length ≤ 1000) : Co true pool.length (loopM (pickStep (τ := τ) u) (rngI 0 pool.length) (pool, [])) fun r => ∃ rest ys, r = .inl (rest, ys) ∧ ys.Perm pool := by
  refine Co.le (c := pool.length * 1) ((co_picks (τ := τ) (u := u) (pool := pool) (n := pool.length) (Nat.le_refl _) hl).mono fun r ⟨rest, ys, hr, hp, hy⟩ => ⟨rest, ys, hr, ?_⟩) (by omega)
  have l := hp.length_eq
  rw [List.length_append] at l
  have : rest = [] := List.eq_nil_of_length_eq_zero (by omega)
  subst this
  rw [List.append_nil] at hp
  exact hp
theorem co_mixed {u : Unit} {pool : List Str} (hl : pool.length ≤ 1000) : Co true pool.length (f__law_mixed u pool) fun ys => ys.Perm pool := by
  unfold f__law_mixed f__law_mixed_1
  refine Co.asr (inR_nat (by omega)) ?_
  rw [Int.toNat_natCast]
  refine Co.le (c := pool.length + 0) (Co.bind ((mix_run (τ := List Str) (u := u) hl).mono fun r ⟨rest, ys, hr, hp⟩ => ?_)) (by omega)
  subst hr
  exact Co.ret hp
theorem co_tags {u : Unit} {n : Nat} (hn : n ≤ 8) : Co true 20 (f__law_tags u (n : Int)) fun T => TN T n := by
  have fin : ∀ (pool ys : List Str), ys.Perm pool → pool.length = 8 → pool.Nodup → (∀ x ∈ pool, x ∈ nms0) → TN (cutL ys none (some (n : Int))) n := fun pool ys hp h1 h2 h3 => by
    rw [cut_k ys (by omega), Int.toNat_natCast]
    have l := hp.length_eq
    exact ⟨(List.take_sublist n ys).nodup (hp.nodup_iff.mpr h2), by rw [List.length_take]; omega, fun x hx => h3 x (hp.mem_iff.mp (List.mem_of_mem_take hx))⟩
  unfold f__law_tags f__law_tags_1
  refine Co.le (c := 1 + 8) (Co.bind (co_drawI (by decide) (by decide) fun d _ _ => ?_)) (by omega)
  by_cases d0 : d = 0
  · rw [if_pos (decide_eq_true d0)]
    have q : Co true 8 (f__law_mixedS u ("abcdefgh" : Str)) fun ys => ys.Perm ltrs := by
      unfold f__law_mixedS f__law_mixedS_1
      refine Co.asr (lim_le (by decide)) (Co.asr ⟨lim_le (by decide), inR_nat (by decide)⟩ ?_)
      show Co true 8 ((loopM (pickStep (τ := List Str) u) (rngI 0 ltrs.length) (ltrs, [])).bind _) _
      refine Co.le (c := ltrs.length + 0) (Co.bind ((mix_run (τ := List Str) (u := u) (pool := ltrs) (by decide)).mono fun r ⟨rest, ys, hr, hp⟩ => ?_)) (by decide)
      subst hr
      exact Co.ret hp
    exact Co.le (c := 8 + 0) (Co.bind (q.mono fun ys hp => Co.ret (fin ltrs ys hp rfl (by decide +kernel) fun x hx => List.mem_append_left _ hx))) (by omega)
  rw [if_neg (by rw [decide_eq_false d0]; decide)]
  unfold f__law_tags_2
  by_cases d1 : d = 1
  · rw [if_pos (decide_eq_true d1)]
    exact Co.le (c := pl2.length + 0) (Co.bind ((co_mixed (u := u) (pool := pl2) (by decide)).mono fun ys hp => Co.ret (fin pl2 ys hp rfl (by decide +kernel) fun x hx => List.mem_append_right _ (List.mem_append_left _ hx)))) (by decide)
  · rw [if_neg (by rw [decide_eq_false d1]; decide)]
    unfold f__law_tags_3
    exact Co.le (c := pl3.length + 0) (Co.bind ((co_mixed (u := u) (pool := pl3) (by decide)).mono fun ys hp => Co.ret (fin pl3 ys hp rfl (by decide +kernel) fun x hx => List.mem_append_right _ (List.mem_append_right _ (List.mem_append_left _ hx))))) (by decide)
section
variable {T : List Str} {u : Unit}
theorem co_of (h0 : T ≠ []) (hT : T.length ≤ 1000) : Co true 1 (f__law_of u T) fun x => x ∈ T := co_one h0 hT
/-! ### rows -/
def lastD : List (Int × Str) → Int → Int
  | [], d => d
  | q :: r, _ => lastD r q.1
theorem okr_snoc2 : ∀ (rows : List (Int × Str)) (d : Int) (q : Int × Str), Okr d rows → 1 ≤ q.1 → q.1 ≤ lastD rows d + 1 → Okr d (rows ++ [q])
  | [], d, q, _, h1, h2 => ⟨h1, h2, trivial⟩
  | p :: r, d, q, h, h1, h2 => ⟨h.1, h.2.1, okr_snoc2 r p.1 q h.2.2 h1 h2⟩
theorem lastD_app : ∀ (rows : List (Int × Str)) (d : Int) (q : Int × Str), lastD (rows ++ [q]) d = q.1
  | [], _, _ => rfl
  | _ :: r, _, q => lastD_app r _ q
structure RowsI (T : List Str) (j : Nat) (z : List (Int × Str) × Int) : Prop where
  ok : Okr 0 z.1
  len : z.1.length = j
  lst : z.2 = lastD z.1 0
  d0 : 0 ≤ z.2
  dj : z.2 ≤ (j : Int)
  dep : ∀ q ∈ z.1, q.1 ≤ (j : Int)
  nm : ∀ q ∈ z.1, q.2 ∈ T
  z0 : z.2 = 0 → z.1 = []
theorem co_rows {n : Nat} (h0 : T ≠ []) (hT : T.length ≤ 900) (hn : n ≤ 900) : Co true 3000 (f__law_rows u T (n : Int)) fun rows => Okr 0 rows ∧ rows.length ≤ n ∧ (∀ q ∈ rows, q.1 ≤ (n : Int) ∧ q.2 ∈ T) := by
  unfold f__law_rows f__law_rows_1
  refine Co.le (c := 1 + 2900) (Co.bind (co_drawI (by omega) (Int.lt_of_le_of_lt (show (n : Int) + 1 ≤ 901 by omega) (by decide)) fun d d0 d1 => ?_)) (by omega)
  obtain ⟨k, rfl⟩ := Int.eq_ofNat_of_zero_le d0
  refine Co.asr (inR_nat (by omega)) ?_
  rw [Int.toNat_natCast]
  have q := co_loopN (b := true) (n := 3) (step := f__law_rows_2 u T) (I := fun j z => RowsI T j z) (rngI 0 k) 0 (([], 0) : List (Int × Str) × Int) ⟨trivial, rfl, rfl, by decide, by decide, (fun q hq => nomatch hq), (fun q hq => nomatch hq), fun _ => rfl⟩ ?_
  · rw [len_rngI] at q
    refine Co.le (c := k * 3 + 0) (Co.bind (q.mono fun r ⟨z, hr, hz⟩ => ?_)) (by omega)
    subst hr
    have hl := hz.len
    exact Co.ret ⟨hz.ok, by omega, fun q hq => ⟨by have := hz.dep q hq; omega, hz.nm q hq⟩⟩
  · intro i z x _ hi hz
    rw [len_rngI] at hi
    have dj := hz.dj
    have z0 := hz.d0
    have zl := hz.len
    unfold f__law_rows_2
    refine Co.le (c := 1 + 2) (Co.bind (Co.mono (k := fun b => b = false → z.2 ≠ 0) ?_ fun b hb => ?_)) (by omega)
    · by_cases e : z.2 = 0
      · rw [if_pos (decide_eq_true e)]
        exact Co.le (Co.ret fun q => nomatch q) (Nat.zero_le _)
      · rw [if_neg (by rw [decide_eq_false e]; decide)]
        exact Co.le (c := 1 + 0) (Co.bind (co_drawI (by decide) (by decide) fun d _ _ => Co.ret fun _ => e)) (by omega)
    · refine Co.le (c := 1 + 1) (Co.bind (Co.mono (k := fun d => 1 ≤ d ∧ d ≤ z.2 + 1) ?_ fun d ⟨e1, e2⟩ => ?_)) (by omega)
      · cases b with
        | true =>
          rw [if_pos rfl]
          exact Co.le (Co.ret ⟨by omega, Int.le_refl _⟩) (Nat.zero_le _)
        | false =>
          rw [if_neg Bool.false_ne_true]
          have := hb rfl
          refine Co.le (c := 1 + 0) (Co.bind (co_drawI (by omega) (Int.lt_of_le_of_lt (show z.2 ≤ 900 by omega) (by decide)) fun b b0 b1 => Co.ret ⟨by omega, by omega⟩)) (by omega)
      · refine Co.asr (lim_lt (by omega)) ?_
        refine Co.le (c := 1 + 0) (Co.bind (Co.mono (k := fun w => w.1 = d ∧ w.2 ∈ T) ?_ fun w ⟨w1, w2⟩ => Co.ret ⟨_, rfl, ?_⟩)) (by omega)
        · exact Co.le (c := 1 + 0) (Co.bind ((co_of (u := u) h0 (by omega)).mono fun x hx => Co.ret ⟨rfl, hx⟩)) (by omega)
        · obtain ⟨w', x⟩ := w
          have w1 : w' = d := w1
          subst w1
          have lst := hz.lst
          refine ⟨okr_snoc2 _ _ _ hz.ok e1 (by show w' ≤ _; omega), by rw [List.length_append, List.length_singleton, zl], (lastD_app z.1 0 (w', x)).symm, by show 0 ≤ w'; omega, by show w' ≤ _; omega, fun q hq => ?_, fun q hq => ?_, fun q => by have q : w' = 0 := q; omega⟩
          · rcases List.mem_append.mp hq with hq | hq
            · have := hz.dep q hq; omega
            · rw [List.mem_singleton.mp hq]; show w' ≤ _; omega
          · rcases List.mem_append.mp hq with hq | hq
            · exact hz.nm q hq
            · rw [List.mem_singleton.mp hq]; exact w2
/-! ### deeds -/
structure LOk (T : List Str) (n : Nat) (rs : List Raw) : Prop where
  ok : ∀ r ∈ rs, ROk T r
  len : rs.length ≤ n
  top : ∀ r ∈ rs, ∀ k, r = .cut k → k ≤ 5
  few : ∀ r ∈ rs, ∀ d ns b, r = .lab d ns b → ns.length ≤ T.length
end
end Pg0
end
section
set_option Elab.async false
set_option linter.all false
set_option maxRecDepth 100000
set_option maxHeartbeats 1000000
namespace Pk
open PySem DL L2
noncomputable def f_fresh_name (told : (List Str)) : Str := (ixD (freshN.filter fun (y1 : Str) => (!decide (y1 ∈ told))) (0 : Int))
def vc_fresh_name (told : (List Str)) : Prop := (((freshN.length ≤ lim)) ∧ ((atI (freshN.filter fun (y1 : Str) => (!decide (y1 ∈ told))) (0 : Int)).isSome = true))
def vc_labels_for_1 (v2 : (List Str)) : Prop := ((vc_fresh_name v2)) ∧ ((v2 ++ [(f_fresh_name v2)]).length ≤ lim)
def vc_labels_for (p : Pipe) (q : Pipe) : Prop := ((vc_told_in (f_Pipeline_form p) (f_Pipeline_form q))) ∧ (vc_labels_for_1 (f_told_in (f_Pipeline_form p) (f_Pipeline_form q)))
end Pk
end
section
set_option Elab.async false
set_option linter.all false
set_option maxRecDepth 100000
set_option maxHeartbeats 1000000
namespace Pk
open PySem DL L2
section
variable {P : List Str} {f A B F : Form} {G : Fate}
/-! ### forms made of sides -/
/-! ### the greatest form within two -/
/-! ### the least form around two -/
structure High (S : Str → Bool × Room) (h : Room) : Prop where
  up : ∀ k, (S k).1 = true → Most (S k).2 h
  zero : Most (some 0) h
  at_ : h = some 0 ∨ ∃ k, (S k).1 = true ∧ (S k).2 = h
end
end Pk
end
section
set_option Elab.async false
set_option linter.all false
set_option maxRecDepth 1000000
set_option maxHeartbeats 1000000
/-! forests that show what pipelines keep -/
namespace Pk
open PySem DL L2
section
variable {P : List Str} {A B : Form} {p q : Pipe}
/-- the labels that are looked at -/
structure Labs (p q : Pipe) (L : List Str) : Prop where
  vc : vc_labels_for p q
  len : L.length ≤ 60
  ok : ∀ x ∈ L, PySem.PyData.strOk x = true
  at_ : ∀ k, ∃ x ∈ L, ((ev p.form k).2 = (ev p.form x).2 ∧ ((ev p.form k).1 = none ↔ (ev p.form x).1 = none)) ∧ ((ev q.form k).2 = (ev q.form x).2 ∧ ((ev q.form k).1 = none ↔ (ev q.form x).1 = none)) ∧ ((ev p.form x).1 = (ev q.form x).1 → (ev p.form k).1 = (ev q.form k).1)
/-- the path that parts two pipelines -/
inductive PartZ (a b : Fate) : List Str → Prop where
  | one (x : Str) : (a x).1 ≠ (b x).1 → PartZ a b [x]
  | more (x l : Str) (m : Nat) : (∀ k, (a k).1 = (b k).1) → (a l).1 ≠ none → lesR (a x).2 (b x).2 = some (m : Int) → (a x).2 ≠ (b x).2 → m ≤ 1000 → PartZ a b (List.replicate (m + 1) x ++ [l])
end
end Pk
end
section
set_option Elab.async false
set_option linter.all false
set_option maxRecDepth 1000000
set_option maxHeartbeats 1000000
/-! what the one keeps and the other does not -/
namespace Pk
open PySem DL L2
section
variable {P : List Str} {p q : Pipe}
/-- a label, how often, and a last one -/
inductive OutZ (a b : Fate) : Str → Nat → Str → Prop where
  | bare (x : Str) : (a x).1 ≠ none → (b x).1 = none → OutZ a b x 0 x
  | room (x l : Str) (m : Nat) : (∀ k, (a k).1 ≠ none → (b k).1 ≠ none) → (b x).2 = some (m : Int) → ¬ Most (a x).2 (b x).2 → (a l).1 ≠ none → m ≤ 1000 → OutZ a b x (m + 1) l
theorem OutZ.le {a b : Fate} {x l : Str} {n : Nat} (h : OutZ a b x n l) : n ≤ 1001 := by
  cases h with
  | bare => omega
  | room m _ _ _ _ _ => omega
/-! the path -/
end
/-! the forest -/
section
variable {P : List Str} {p q : Pipe} {x l : Str} {n : Nat}
end
end Pk
end
section
set_option Elab.async false
set_option linter.all false
set_option maxRecDepth 1000000
set_option maxHeartbeats 1000000
/-! the text of rows is the law's own text of their trees -/
namespace Q03
open PySem DL L2 Pk Pg0
def cs (s : Str) : List Nat := s.cps.toList
theorem cs_app (a b : Str) : cs (a ++ b) = cs a ++ cs b := by
  show (a.cps ++ b.cps).toList = _
  rw [Array.toList_append]; rfl
theorem cs_inj {a b : Str} (h : cs a = cs b) : a = b := by
  cases a; cases b
  exact congrArg Str.mk (Array.toList_inj.mp h)
def par (n : Nat) : List Nat := List.replicate n 41
theorem fold_rep : ∀ (n : Nat) (a : Array Nat), ((List.replicate n (#[41] : Array Nat)).foldl (· ++ ·) a).toList = a.toList ++ par n
  | 0, a => by simp [par]
  | n + 1, a => by
    rw [List.replicate_succ, List.foldl_cons, fold_rep n, Array.toList_append]
    show (a.toList ++ [41]) ++ par n = a.toList ++ par (n + 1)
    rw [List.append_assoc]; rfl
theorem close_cps : (")" : Str).cps = #[41] := by decide +kernel
theorem cs_smul (j : Int) : cs (smul ")" j) = par j.toNat := by
  unfold smul strRep
  split
  · rename_i h
    rw [show j.toNat = 0 by omega]; rfl
  · split
    · rename_i h1 h
      have : j = 1 := by
        rcases Bool.or_eq_true _ _ ▸ h with h | h
        · simpa using h
        · exact absurd h (by decide)
      subst this
      show (")" : Str).cps.toList = _
      rw [close_cps]; rfl
    · show (List.foldl (· ++ ·) #[] (List.replicate j.toNat (")" : Str).cps)).toList = _
      rw [close_cps, fold_rep]; rfl
theorem smul_len (j : Int) : (smul ")" j).length = j.toNat := by
  have := congrArg List.length (cs_smul j)
  unfold par at this
  rw [List.length_replicate] at this
  exact this
theorem cs_open : cs "(" = [40] := by decide +kernel
theorem cs_close : cs ")" = [41] := by decide +kernel
theorem cs_sp : cs " " = [32] := by decide +kernel
theorem cs_nil : cs "" = [] := by decide +kernel
theorem par_succ (n : Nat) : par (n + 1) = par n ++ [41] := List.replicate_succ'
def jn (f : Fo) : List Nat := (flatL f).flatMap fun s => 32 :: cs s
theorem cs_join : ∀ (t : Str) (ts : List Str), cs (Txt.join (" " : Str) (t :: ts)) = cs t ++ ts.flatMap fun s => 32 :: cs s
  | t, [] => by rw [join_one, List.flatMap_nil, List.append_nil]
  | t, u :: ts => by
    rw [join_two, cs_app, cs_app, cs_join u ts, cs_sp, List.flatMap_cons]
    simp
def fin (z : Str × Int) (d : Int) : List Nat := cs z.1 ++ par (z.2 - d).toNat
def tail (p : Fo) : List Nat := match p with
  | .nil => []
  | .cons .. => (40 :: cs (Txt.join (" " : Str) (flatL p))) ++ [41]
theorem cs_piece (x : Str) (p : Fo) : cs (x ++ (if (!isN p) = true then ((("(" : Str) ++ Txt.join (" " : Str) (flatL p)) ++ (")" : Str)) else ("" : Str))) = cs x ++ tail p := by
  cases p with
  | nil => rw [cs_app, if_neg (by decide), cs_nil]; rfl
  | cons y q t => rw [cs_app, if_pos (show (!isN (.cons y q t)) = true from rfl), cs_app, cs_app, cs_open, cs_close]; rfl
theorem jn_cons (x : Str) (p r : Fo) : jn (.cons x p r) = 32 :: (cs x ++ tail p) ++ jn r := by
  show ((_ :: flatL r).flatMap _) = _
  rw [List.flatMap_cons, cs_piece]; rfl
theorem tail_cons (y : Str) (q t : Fo) : tail (.cons y q t) = (40 :: (cs y ++ tail q ++ jn t)) ++ [41] := by
  show (40 :: cs (Txt.join (" " : Str) (_ :: flatL t))) ++ [41] = _
  rw [cs_join, cs_piece]; rfl
theorem st_side {z : Str × Int} {d : Int} (x : Str) (h : d ≤ z.2) : cs (f_text_of_1 z (d, x)).1 = fin z d ++ (32 :: cs x) ∧ (f_text_of_1 z (d, x)).2 = d := by
  refine ⟨?_, rfl⟩
  show cs ((z.1 ++ (if (decide (z.2 < d)) = true then ("(" : Str) else ((smul (")" : Str) (z.2 - d)) ++ (" " : Str)))) ++ x) = _
  rw [if_neg (by rw [decide_eq_true_iff]; omega), cs_app, cs_app, cs_app, cs_smul, cs_sp]
  unfold fin
  simp
theorem st_deep {z : Str × Int} {d : Int} (x : Str) (h : z.2 = d) : cs (f_text_of_1 z (d + 1, x)).1 = cs z.1 ++ (40 :: cs x) ∧ (f_text_of_1 z (d + 1, x)).2 = d + 1 := by
  refine ⟨?_, rfl⟩
  show cs ((z.1 ++ (if (decide (z.2 < d + 1)) = true then ("(" : Str) else ((smul (")" : Str) (z.2 - (d + 1))) ++ (" " : Str)))) ++ x) = _
  rw [if_pos (by rw [decide_eq_true_iff]; omega), cs_app, cs_app, cs_open]
  simp
theorem fin_self {z : Str × Int} {d : Int} (h : z.2 = d) : fin z d = cs z.1 := by
  unfold fin
  rw [h, show (d - d).toNat = 0 by omega]
  exact List.append_nil _
theorem fold_is : ∀ f : Fo,
    (∀ (d : Int) (z : Str × Int), d ≤ z.2 → d ≤ ((nodes d f).foldl f_text_of_1 z).2 ∧ fin ((nodes d f).foldl f_text_of_1 z) d = fin z d ++ jn f) ∧
    (∀ (d : Int) (z : Str × Int), z.2 = d → d ≤ ((nodes (d + 1) f).foldl f_text_of_1 z).2 ∧ fin ((nodes (d + 1) f).foldl f_text_of_1 z) d = cs z.1 ++ tail f)
  | .nil => ⟨fun d z h => ⟨h, (List.append_nil _).symm⟩, fun d z h => ⟨by show d ≤ z.2; omega, by show fin z d = cs z.1 ++ []; rw [fin_self h, List.append_nil]⟩⟩
  | .cons x p r => by
    obtain ⟨_, ip⟩ := fold_is p
    obtain ⟨ir, _⟩ := fold_is r
    constructor
    · intro d z h
      obtain ⟨s1, s2⟩ := st_side x h
      obtain ⟨a1, a2⟩ := ip d (f_text_of_1 z (d, x)) s2
      obtain ⟨b1, b2⟩ := ir d ((nodes (d + 1) p).foldl f_text_of_1 (f_text_of_1 z (d, x))) a1
      have e : (nodes d (.cons x p r)).foldl f_text_of_1 z = (nodes d r).foldl f_text_of_1 ((nodes (d + 1) p).foldl f_text_of_1 (f_text_of_1 z (d, x))) := by
        show ((d, x) :: (nodes (d + 1) p ++ nodes d r)).foldl f_text_of_1 z = _
        rw [List.foldl_cons, List.foldl_append]
      rw [e]
      refine ⟨b1, ?_⟩
      rw [b2, a2, s1, jn_cons]
      simp
    · intro d z h
      obtain ⟨s1, s2⟩ := st_deep x h
      obtain ⟨a1, a2⟩ := ip (d + 1) (f_text_of_1 z (d + 1, x)) s2
      obtain ⟨b1, b2⟩ := ir (d + 1) ((nodes (d + 1 + 1) p).foldl f_text_of_1 (f_text_of_1 z (d + 1, x))) a1
      have e : (nodes (d + 1) (.cons x p r)).foldl f_text_of_1 z = (nodes (d + 1) r).foldl f_text_of_1 ((nodes (d + 1 + 1) p).foldl f_text_of_1 (f_text_of_1 z (d + 1, x))) := by
        show ((d + 1, x) :: (nodes (d + 1 + 1) p ++ nodes (d + 1) r)).foldl f_text_of_1 z = _
        rw [List.foldl_cons, List.foldl_append]
      rw [e]
      generalize (nodes (d + 1) r).foldl f_text_of_1 ((nodes (d + 1 + 1) p).foldl f_text_of_1 (f_text_of_1 z (d + 1, x))) = w at b1 b2
      refine ⟨by omega, ?_⟩
      have f1 : fin w d = fin w (d + 1) ++ [41] := by
        unfold fin
        rw [show (w.2 - d).toNat = (w.2 - (d + 1)).toNat + 1 by omega, par_succ, List.append_assoc]
      rw [f1, b2, a2, s1, tail_cons]
      simp
theorem text_fold {x : Str} {p r : Fo} : (((nodes 2 p ++ nodes 1 r).foldl f_text_of_1 (x, (1 : Int))).1 ++ smul (")" : Str) (((nodes 2 p ++ nodes 1 r).foldl f_text_of_1 (x, (1 : Int))).2 - 1)) = Txt.join (" " : Str) (flatL (.cons x p r)) ∧ 1 ≤ ((nodes 2 p ++ nodes 1 r).foldl f_text_of_1 (x, (1 : Int))).2 := by
  obtain ⟨a1, a2⟩ := (fold_is p).2 1 (x, 1) rfl
  obtain ⟨b1, b2⟩ := (fold_is r).1 1 ((nodes 2 p).foldl f_text_of_1 (x, 1)) a1
  rw [List.foldl_append]
  refine ⟨cs_inj ?_, b1⟩
  rw [cs_app, cs_smul]
  show fin ((nodes 1 r).foldl f_text_of_1 ((nodes 2 p).foldl f_text_of_1 (x, (1 : Int)))) 1 = cs (Txt.join (" " : Str) (_ :: flatL r))
  rw [b2, show fin ((nodes 2 p).foldl f_text_of_1 (x, (1 : Int))) 1 = _ from a2, cs_join, cs_piece]; rfl
theorem ok_text : ∀ (rows : List (Int × Str)) (z : Str × Int), (∀ q ∈ rows, 0 ≤ q.1 ∧ q.1 ≤ 100 ∧ q.2.length ≤ 100) → 0 ≤ z.2 → z.2 ≤ 100 → z.1.length + 300 * rows.length ≤ 90000 → foldOk f_text_of_1 vc_text_of_1 rows z ∧ (rows.foldl f_text_of_1 z).1.length ≤ z.1.length + 300 * rows.length ∧ 0 ≤ (rows.foldl f_text_of_1 z).2 ∧ (rows.foldl f_text_of_1 z).2 ≤ 100
  | [], z, _, h0, h1, h => ⟨trivial, by show z.1.length ≤ _; omega, h0, h1⟩
  | q :: rows, z, hq, h0, h1, h => by
    obtain ⟨q1, q2, q3⟩ := hq q (List.mem_cons_self ..)
    rw [List.length_cons] at h
    have sp : (" " : Str).length = 1 := by decide +kernel
    have op : ("(" : Str).length = 1 := by decide +kernel
    have sl := smul_len (z.2 - q.1)
    have md : (if (decide (z.2 < q.1)) = true then ("(" : Str) else ((smul (")" : Str) (z.2 - q.1)) ++ (" " : Str))).length ≤ 101 := by
      split
      · omega
      · rw [sl_app]; omega
    have l1 : (f_text_of_1 z q).1.length ≤ z.1.length + 201 := by
      show ((z.1 ++ _) ++ q.2).length ≤ _
      rw [sl_app, sl_app]; omega
    obtain ⟨i1, i2, i3, i4⟩ := ok_text rows (f_text_of_1 z q) (fun x hx => hq x (List.mem_cons_of_mem _ hx)) q1 q2 (by omega)
    refine ⟨⟨⟨⟨fun _ => ⟨⟨by decide +kernel, by omega, by omega⟩, lim_le (by rw [sl, sp]; omega)⟩, lim_le (by omega)⟩, lim_le (by rw [sl_app]; omega)⟩, i1⟩, ?_, i3, i4⟩
    rw [List.length_cons]
    show (rows.foldl f_text_of_1 (f_text_of_1 z q)).1.length ≤ _
    omega
/-- what is asked of rows to have a text -/
structure Tx (rows : List (Int × Str)) : Prop where
  ok : Okr 0 rows
  len : rows.length ≤ 14
  dep : ∀ q ∈ rows, 0 ≤ q.1 ∧ q.1 ≤ 14
  nm : ∀ q ∈ rows, q.2 ∈ nms0
theorem nms0_short : ∀ x ∈ nms0, x.length ≤ 8 := by decide +kernel
theorem text_is {rows : List (Int × Str)} (h : Tx rows) : f_text_of rows = flatF (foOf rows) ∧ vc_text_of rows := by
  have e := fo_nodes h.ok
  cases hf : foOf rows with
  | nil =>
    rw [hf] at e
    have : rows = [] := e.symm
    subst this
    exact ⟨rfl, fun q => absurd (show decide ((0 : Int) = 0) = false from q) (by decide)⟩
  | cons x p r =>
    rw [hf] at e
    have e : rows = (1, x) :: (nodes 2 p ++ nodes 1 r) := e.symm
    have hd := h.dep
    have hn := h.nm
    have hl := h.len
    rw [e] at hd hn hl
    rw [List.length_cons] at hl
    generalize hN : nodes 2 p ++ nodes 1 r = ns at e hd hn hl
    have xl := nms0_short x (hn (1, x) (List.mem_cons_self ..))
    obtain ⟨o1, o2, o3, o4⟩ := ok_text ns (x, 1) (fun q hq => by
      obtain ⟨a, b⟩ := hd q (List.mem_cons_of_mem _ hq)
      have c := nms0_short _ (hn q (List.mem_cons_of_mem _ hq))
      exact ⟨a, by omega, by omega⟩) (by show (0 : Int) ≤ 1; decide) (by show (1 : Int) ≤ 100; decide) (by show x.length + _ ≤ _; omega)
    have tf := (text_fold (x := x) (p := p) (r := r))
    rw [hN] at tf
    obtain ⟨t1, t2⟩ := tf
    have sl := smul_len ((ns.foldl f_text_of_1 (x, (1 : Int))).2 - 1)
    have o2 : (ns.foldl f_text_of_1 (x, (1 : Int))).1.length ≤ x.length + 300 * ns.length := o2
    subst e
    have at0 : atI (((1 : Int), x) :: ns) (0 : Int) = some (1, x) := L2.atI_nat (j := 0) rfl
    have ix0 : ixD (((1 : Int), x) :: ns) (0 : Int) = (1, x) := by unfold ixD; rw [at0]; rfl
    constructor
    · unfold f_text_of
      rw [if_neg (by rw [decide_eq_true_iff, List.length_cons]; omega), ix0]
      show (ns.foldl f_text_of_1 (x, (1 : Int))).1 ++ _ = _
      rw [show flatF (.cons x p r) = Txt.join (" " : Str) (flatL (.cons x p r)) from if_pos rfl, ← t1]; rfl
    · intro _
      refine ⟨by rw [at0]; rfl, ?_⟩
      rw [ix0]
      show foldOk f_text_of_1 vc_text_of_1 ns (x, 1) ∧ smulOk (")" : Str) ((ns.foldl f_text_of_1 (x, (1 : Int))).2 - 1) ∧ (ns.foldl f_text_of_1 (x, (1 : Int))).1.length + (smul (")" : Str) ((ns.foldl f_text_of_1 (x, (1 : Int))).2 - 1)).length ≤ lim
      exact ⟨o1, ⟨by decide +kernel, by omega, by omega⟩, lim_le (by omega)⟩
theorem in_nodes {T : Str → Prop} : ∀ (f : Fo) (d : Int), (∀ q ∈ nodes d f, T q.2) → inFo T f
  | .nil, _, _ => trivial
  | .cons x p r, d, h => ⟨h (d, x) (List.mem_cons_self ..), in_nodes p (d + 1) fun q hq => h q (List.mem_cons_of_mem _ (List.mem_append_left _ hq)), in_nodes r d fun q hq => h q (List.mem_cons_of_mem _ (List.mem_append_right _ hq))⟩
theorem w_nodes : ∀ (f : Fo), inFo (fun x => x.length ≤ 8) f → wF f ≤ 12 * f.size
  | .nil, _ => Nat.zero_le _
  | .cons x p r, h => by
    have a := w_nodes p h.2.1
    have b := w_nodes r h.2.2
    have c := h.1
    show x.length + 4 + wF p + wF r ≤ 12 * (p.size + r.size + 1)
    omega
theorem flat_ok {rows : List (Int × Str)} (h : Tx rows) : okFlat (foOf rows) := by
  have e := fo_nodes h.ok
  have s := fo_size h.ok
  have hl := h.len
  have hg := hgt_le (foOf rows) 1 14 (by decide) (by rw [e]; exact fun q hq => (h.dep q hq).2)
  have w := w_nodes (foOf rows) (in_nodes (foOf rows) 1 (by rw [e]; exact fun q hq => nms0_short _ (h.nm q hq)))
  exact ⟨by omega, by omega, in_nodes (foOf rows) 1 (by rw [e]; exact fun q hq => nms0_pool.ok _ (h.nm q hq))⟩
end Q03
end
section
set_option Elab.async false
set_option linter.all false
set_option maxRecDepth 1000000
set_option maxHeartbeats 1000000
/-! Forest.of of a long text, by folds on plain data -/
namespace Q03
open PySem DL L2 Pk Pg0
def ltS : Str := "abcdefghijklmnopqrstuvwxyz"
def one (c : Nat) : Str := ⟨#[c]⟩
def letC (c : Nat) : Bool := decide (c ∈ ltS.cps.toList)
theorem if_t {T : SB} {S1 S2 : ST} {Δ : List Sl} {o : Pg Out} (ht : T Δ = .ret true) (h : S1 Δ = o) : DL.tIf T S1 S2 Δ = o := by
  show (T Δ).bind _ = _
  rw [ht]; exact h
theorem if_f {T : SB} {S1 S2 : ST} {Δ : List Sl} {o : Pg Out} (ht : T Δ = .ret false) (h : S2 Δ = o) : DL.tIf T S1 S2 Δ = o := by
  show (T Δ).bind _ = _
  rw [ht]; exact h
abbrev RZ := List (Int × Str) × Str × Int
def stR (z : RZ) (c : Nat) : RZ :=
  let w : List (Int × Str) × Str := if letC c = true then (z.1, z.2.1 ++ one c) else if decide (z.2.1 = ("" : Str)) = true then (z.1, z.2.1) else (z.1 ++ [(z.2.2, z.2.1)], "")
  (w.1, w.2, z.2.2 + (if decide (one c = ("(" : Str)) = true then 1 else 0) - (if decide (one c = (")" : Str)) = true then 1 else 0))
abbrev bR : ST := (DL.tSeq (DL.tIf (tB (c2 (inO false) (cVar 4) (cC (.str "abcdefghijklmnopqrstuvwxyz")))) (tSet 2 (oV (c2 addO (cVar 2) (cVar 4)))) (DL.tIf (tB (c2 (eqO true) (cVar 2) (cC (.str "")))) (DL.tSeq (tX (xApp 1 (xE (cTup (aC (cVar 3) (aC (cVar 2) aN)))))) (tSet 2 (oV (cC (.str ""))))) DL.tNil)) (tSet 3 (oV (c2 subO (c2 addO (cVar 3) (c1 int2O (c2 (eqO false) (cVar 4) (cC (.str "("))))) (c1 int2O (c2 (eqO false) (cVar 4) (cC (.str ")"))))))))
def sR (t : D) (z : RZ) (w : Sl) : List Sl := [.v t, .o (.lst (z.1.map (e2 eI eS))), .v (eS z.2.1), .v (eI z.2.2), w]
theorem step_R (t : D) (z : RZ) (c : Nat) (h1 : z.1.length < 90000) (h2 : z.2.1.length < 90000) : bR (sR t z (.v (.str (one c)))) = .ret (.nx (sR t (stR z c) (.v (.str (one c))))) := by
  obtain ⟨F, n, d⟩ := z
  have in1 : inO false (.str (one c)) (.str "abcdefghijklmnopqrstuvwxyz") = some (.bl (letC c)) := rfl
  have set3 : ∀ (F : List (Int × Str)) (n : Str), tSet 3 (oV (c2 subO (c2 addO (cVar 3) (c1 int2O (c2 (eqO false) (cVar 4) (cC (.str "("))))) (c1 int2O (c2 (eqO false) (cVar 4) (cC (.str ")")))))) (sR t (F, n, d) (.v (.str (one c)))) = .ret (.nx (sR t (F, n, d + (if decide (one c = ("(" : Str)) = true then 1 else 0) - (if decide (one c = (")" : Str)) = true then 1 else 0)) (.v (.str (one c))))) := fun F n =>
    z_setO (o_v (d := eI (d + (if decide (one c = ("(" : Str)) = true then 1 else 0) - (if decide (one c = (")" : Str)) = true then 1 else 0))) (q_2 (q_2 (q_var rfl) (q_1 (q_2 (q_var rfl) q_C o_eqS) rfl) rfl) (q_1 (q_2 (q_var rfl) q_C o_eqS) rfl) rfl))
  have ht : tB (c2 (inO false) (cVar 4) (cC (.str "abcdefghijklmnopqrstuvwxyz"))) (sR t (F, n, d) (.v (.str (one c)))) = .ret (letC c) := q_tB (q_2 (q_var rfl) q_C in1)
  cases hl : letC c with
  | true =>
    rw [hl] at ht
    have e : stR (F, n, d) c = (F, n ++ one c, d + (if decide (one c = ("(" : Str)) = true then 1 else 0) - (if decide (one c = (")" : Str)) = true then 1 else 0)) := by
      unfold stR
      rw [if_pos hl]
    rw [e]
    refine z_seq (Δ1 := sR t (F, n ++ one c, d) (.v (.str (one c)))) ?_ (set3 F (n ++ one c))
    exact if_t ht (z_setO (o_v (d := eS (n ++ one c)) (q_2 (q_var rfl) (q_var rfl) (o_addS (lim_le (by show n.length + 1 ≤ _; have h2 : n.length < 90000 := h2; omega))))))
  | false =>
    rw [hl] at ht
    have ht2 : tB (c2 (eqO true) (cVar 2) (cC (.str ""))) (sR t (F, n, d) (.v (.str (one c)))) = .ret (!decide (n = "")) := q_tB (q_2 (q_var rfl) q_C o_neS)
    cases hn : decide (n = "") with
    | true =>
      have e : stR (F, n, d) c = (F, n, d + (if decide (one c = ("(" : Str)) = true then 1 else 0) - (if decide (one c = (")" : Str)) = true then 1 else 0)) := by
        unfold stR
        rw [if_neg (by rw [hl]; decide), if_pos hn]
      rw [hn] at ht2
      rw [e]
      refine z_seq (Δ1 := sR t (F, n, d) (.v (.str (one c)))) ?_ (set3 F n)
      exact if_f ht (if_f ht2 rfl)
    | false =>
      have e : stR (F, n, d) c = (F ++ [(d, n)], ("" : Str), d + (if decide (one c = ("(" : Str)) = true then 1 else 0) - (if decide (one c = (")" : Str)) = true then 1 else 0)) := by
        unfold stR
        rw [if_neg (by rw [hl]; decide), if_neg (by show ¬ decide (n = "") = true; rw [hn]; decide)]
      rw [hn] at ht2
      rw [e]
      refine z_seq (Δ1 := sR t (F ++ [(d, n)], ("" : Str), d) (.v (.str (one c)))) ?_ (set3 (F ++ [(d, n)]) "")
      have ap : (DL.tSeq (tX (xApp 1 (xE (cTup (aC (cVar 3) (aC (cVar 2) aN)))))) (tSet 2 (oV (cC (.str ""))))) (sR t (F, n, d) (.v (.str (one c)))) = .ret (.nx (sR t (F ++ [(d, n)], ("" : Str), d) (.v (.str (one c))))) :=
        z_seq (z_appL (f := e2 eI eS) (xs := F) (x := (d, n)) rfl (q_tup (q_aC (q_var rfl) (q_aC (q_var rfl) q_aN))) (lim_lt (by have h1 : F.length < 90000 := h1; omega))) (z_setO (o_v (d := eS "") q_C))
      exact if_f ht (if_t ht2 ap)
theorem for_c {tg : Tg} {body : ST} {d : D} {ds : List D} {Δ Δ0 Δ1 : List Sl} {o : Pg Out} (h0 : tgS tg d Δ = some Δ0) (h1 : body Δ0 = .ret (.nx Δ1)) (h2 : forP tg body ds Δ1 = o) : forP tg body (d :: ds) Δ = o := by
  show (ofO (tgS tg d Δ)).bind _ = _
  rw [h0]
  show (body Δ0).bind _ = _
  rw [h1]; exact h2
theorem loop_R (t : D) : ∀ (xs : List Nat) (z : RZ) (w : Sl), z.1.length + xs.length ≤ 80000 → z.2.1.length + xs.length ≤ 80000 → ∃ w', forP (.nm 4) bR (xs.map fun c => .str (one c)) (sR t z w) = .ret (.nx (sR t (xs.foldl stR z) w'))
  | [], z, w, _, _ => ⟨w, rfl⟩
  | c :: xs, z, w, h1, h2 => by
    rw [List.length_cons] at h1 h2
    have st := step_R t z c (by omega) (by omega)
    have l1 : (stR z c).1.length ≤ z.1.length + 1 := by
      unfold stR
      dsimp only
      split
      · show z.1.length ≤ _; omega
      · split
        · show z.1.length ≤ _; omega
        · show (z.1 ++ [_]).length ≤ _
          rw [List.length_append, List.length_singleton]; omega
    have l2 : (stR z c).2.1.length ≤ z.2.1.length + 1 := by
      unfold stR
      dsimp only
      split
      · show (z.2.1 ++ one c).length ≤ _
        rw [sl_app]; exact Nat.le_refl _
      · split
        · show z.2.1.length ≤ _; omega
        · exact Nat.zero_le _
    obtain ⟨w', e⟩ := loop_R t xs (stR z c) (.v (.str (one c))) (by omega) (by omega)
    exact ⟨w', for_c (Δ0 := sR t z (.v (.str (one c)))) rfl st e⟩
def rowsR (t : Str) : List (Int × Str) := ((t.cps.toList ++ [32]).foldl stR (([] : List (Int × Str)), ("" : Str), (1 : Int))).1
theorem rows_in (t : Str) (h : t.length ≤ 50000) : F_rows_in [eS t] = .ret (eT (e2 eI eS) (rowsR t)) := by
  have hl : (t.cps.toList ++ [32]).length = t.length + 1 := by
    rw [List.length_append, Array.length_toList]; rfl
  obtain ⟨w', e⟩ := loop_R (eS t) (t.cps.toList ++ [32]) (([] : List (Int × Str)), ("" : Str), (1 : Int)) .e (by rw [hl]; show 0 + _ ≤ _; omega) (by rw [hl]; show 0 + _ ≤ _; omega)
  have it : aIt (c2 addO (cVar 0) (cC (.str " "))) (sR (eS t) (([] : List (Int × Str)), ("" : Str), (1 : Int)) .e) = .ret ((t.cps.toList ++ [32]).map fun c => .str (one c)) := by
    have a : (c2 addO (cVar 0) (cC (.str " "))) (sR (eS t) (([] : List (Int × Str)), ("" : Str), (1 : Int)) .e) = .ret (eS (t ++ " ")) := q_2 (q_var rfl) q_C (o_addS (lim_le (by rw [show (" " : Str).length = 1 from by decide +kernel]; omega)))
    show ((c2 addO (cVar 0) (cC (.str " "))) _).bind _ = _
    rw [a, bind_ret]
    show Pg.ret ((t.cps ++ (" " : Str).cps).toList.map fun c => D.str (one c)) = _
    rw [Array.toList_append, show (" " : Str).cps.toList = [32] by decide +kernel]
  have b : B_rows_in [.v (eS t), .e, .e, .e, .e] = .ret (.rt (eT (e2 eI eS) (rowsR t))) := by
    unfold B_rows_in
    refine z_seq (Δ1 := sR (eS t) (([] : List (Int × Str)), ("" : Str), (1 : Int)) .e) rfl ?_
    refine z_seq (z_forS it e) ?_
    refine z_frz (Δ1 := [.v (eS t), .v (.lst ((rowsR t).map (e2 eI eS))), .v (eS _), .v (eI _), w']) rfl ?_
    exact z_ret (q_1 (q_vw (d := eL (e2 eI eS) (rowsR t)) rfl) o_tupL)
  show ((B_rows_in [.v (eS t), .e, .e, .e, .e]).bind fun o => match o with
    | .nx _ => .ret .non
    | .rt d => .ret d
    | _ => .fail) = _
  rw [b]; rfl
end Q03
end
section
set_option Elab.async false
set_option linter.all false
set_option maxRecDepth 100000
set_option maxHeartbeats 1000000
namespace Q03
open PySem DL L2
open Pk Pg0
def okRin (t : Str) : Prop := t.length ≤ 50000
theorem i_rowsin (t : Str) (h : okRin t) : F_rows_in [eS t] = .ret (eT (e2 eI eS) (rowsR t)) := rows_in t h
noncomputable def f_is_name (thing : Str) : Bool := (if ((!true) || (!((decide ((0 : Int) < (thing.length : Int))) && (decide ((thing.length : Int) ≤ (8 : Int)))))) = true then false else (((chrS thing).map fun (y1 : Str) => (sgn y1 ("abcdefghijklmnopqrstuvwxyz" : Str))).all id))
def vc_is_name (thing : Str) : Prop := (((!true) = false → ((thing.length ≤ lim)))) ∧ (((!true) || (!((decide ((0 : Int) < (thing.length : Int))) && (decide ((thing.length : Int) ≤ (8 : Int)))))) = false → (((chrS thing).length ≤ lim) ∧ (∀ y1 ∈ (chrS thing), (y1.length = 1))))
theorem b_is_name (thing : Str) (h : vc_is_name thing)  : RetQ eB (f_is_name thing) ((DL.tSeq (DL.tIf (tOr (tNot (tT (c2 isiO (cVar 0) (cC (.ty "str"))))) (tNot (tB (cCh .Lt .LtE (cC (.int 0)) (c1 lenO' (cVw 0)) (cC (.int 8)))))) (DL.tRet (cC (.bl false))) DL.tNil) (DL.tRet (c1 allO (cL (aLc (.nm 1) [1] (aIt (cVar 0)) DL.tYes (c2 (inO false) (cVar 1) (cC (.str "abcdefghijklmnopqrstuvwxyz")))))))) [.v (eS thing), .e]) := by
  exact (show RetQ eB (if ((!true) || (!((decide ((0 : Int) < (thing.length : Int))) && (decide ((thing.length : Int) ≤ (8 : Int)))))) = true then false else (((chrS thing).map fun (y1 : Str) => (sgn y1 ("abcdefghijklmnopqrstuvwxyz" : Str))).all id)) _ from (y_seqif (v := false) (w := (((chrS thing).map fun (y1 : Str) => (sgn y1 ("abcdefghijklmnopqrstuvwxyz" : Str))).all id)) (b := ((!true) || (!((decide ((0 : Int) < (thing.length : Int))) && (decide ((thing.length : Int) ≤ (8 : Int))))))) (q_tOr (b := (!true)) (c := (!((decide ((0 : Int) < (thing.length : Int))) && (decide ((thing.length : Int) ≤ (8 : Int)))))) (q_tNot (q_tT (q_2 (q_var rfl) q_C rfl) o_truB)) (fun ee0 => (q_tNot (q_tB (q_ch q_C (q_1 (q_vw rfl) (o_lenS (h.1 ee0))) q_C o_ltI o_leI))))) (fun ee0 => (y_seqret (show _ = Pg.ret (eB false) from q_C) rfl)) (fun ee0 => (y_seqnil (y_ret (show _ = Pg.ret (eB (((chrS thing).map fun (y1 : Str) => (sgn y1 ("abcdefghijklmnopqrstuvwxyz" : Str))).all id)) from (q_1 (q_cLL (q_lc0 (f := eS) (xs := (chrS thing)) (v := fun (y1 : Str) => (sgn y1 ("abcdefghijklmnopqrstuvwxyz" : Str))) (g := eB) (q_itS (q_var rfl)) (h.2 ee0).1 (fun y1 hy1 => ⟨_, rfl, (q_2 (q_var rfl) q_C ((o_inSS (x := y1) (z := ("abcdefghijklmnopqrstuvwxyz" : Str))) ((h.2 ee0).2 y1 hy1)))⟩))) o_all)) rfl)))))
theorem t_is_name (thing : Str) (h : vc_is_name thing) : F_is_name [eS thing] = .ret (eB (f_is_name thing)) := by
  refine (runF_at [.v (eS thing), .e] rfl rfl).trans ?_
  unfold B_is_name
  rw [show _ = _ from b_is_name thing h]
  rfl
noncomputable def f_Forest_of (text : Str) : For := (mkFor (foOf (rowsR text)))
def vc_Forest_of (text : Str) : Prop := ((okRin text)) ∧ ((((((rowsR text).length ≤ lim) ∧ (∀ y2 ∈ (rowsR text), ((decide ((0 : Int) < y2.1)) = true → (vc_is_name y2.2))))) ∧ ((!(((rowsR text).map fun (y2 : (Int × Str)) => ((decide ((0 : Int) < y2.1)) && (f_is_name y2.2))).all id)) = false → ((vc_text_of (rowsR text))))) ∧ (((!(((rowsR text).map fun (y2 : (Int × Str)) => ((decide ((0 : Int) < y2.1)) && (f_is_name y2.2))).all id)) || (!decide ((f_text_of (rowsR text)) = text))) = false) ∧ (((okRows (rowsR text))) ∧ (okFo (foOf (rowsR text)))))
theorem b_Forest_of (text : Str) (h : vc_Forest_of text)  : RetQ eFor (f_Forest_of text) ((DL.tSeq (tSet 1 (oV (cCall F_rows_in (aC (cVar 0) aN)))) (DL.tSeq (DL.tIf (tOr (tNot (tT (c1 allO (cL (aLc (.tp [(.nm 2), (.nm 3)]) [2, 3] (aIt (cVar 1)) DL.tYes (eAnd (c2 (coO2 .Gt) (cVar 2) (cC (.int 0))) (cCall F_is_name (aC (cVar 3) aN)))))))) (tB (c2 (eqO true) (cCall F_text_of (aC (cVar 1) aN)) (cVar 0)))) (fun _ => .fail) DL.tNil) (DL.tRet (cMk 3 F_Forest___init__ (aC (cCall F_trees_of (aC (cVar 1) aN)) aN) [])))) [.v (eS text), .e, .e, .e]) := by
  exact (show RetQ eFor (mkFor (foOf (rowsR text))) _ from (y_seq (Δ1 := [.v (eS text), .v ((eT (e2 eI eS)) (rowsR text)), .e, .e]) (z_setO (o_v (d := (eT (e2 eI eS)) (rowsR text)) (q_call (q_aC (q_var rfl) q_aN) (i_rowsin text h.1)))) (y_seqdead (b := ((!(((rowsR text).map fun (y2 : (Int × Str)) => ((decide ((0 : Int) < y2.1)) && (f_is_name y2.2))).all id)) || (!decide ((f_text_of (rowsR text)) = text)))) (q_tOr (b := (!(((rowsR text).map fun (y2 : (Int × Str)) => ((decide ((0 : Int) < y2.1)) && (f_is_name y2.2))).all id))) (c := (!decide ((f_text_of (rowsR text)) = text))) (q_tNot (q_tT (q_1 (q_cLL (q_lc0 (f := (e2 eI eS)) (xs := (rowsR text)) (v := fun (y2 : (Int × Str)) => ((decide ((0 : Int) < y2.1)) && (f_is_name y2.2))) (g := eB) (q_itT (q_var rfl)) h.2.1.1.1 (fun y2 hy2 => ⟨_, rfl, (q_eAnd (b := (decide ((0 : Int) < y2.1))) (c := (f_is_name y2.2)) (q_2 (q_var rfl) q_C o_gtI2) (fun ee0 => (q_call (q_aC (q_var rfl) q_aN) (t_is_name y2.2 ((h.2.1.1.2 y2 hy2) ee0)))))⟩))) o_all) o_truB)) (fun ee0 => (q_tB (q_2 (q_call (q_aC (q_var rfl) q_aN) (t_text_of (rowsR text) (h.2.1.2 ee0))) (q_var rfl) o_neS)))) h.2.2.1 (y_ret (show _ = Pg.ret (eFor (mkFor (foOf (rowsR text)))) from (q_mk (q_aC (q_call (q_aC (q_var rfl) q_aN) (i_trees_of (rowsR text) h.2.2.2.1)) q_aN) (i_For (foOf (rowsR text)) h.2.2.2.2) rfl)) rfl))))
theorem t_Forest_of (text : Str) (h : vc_Forest_of text) : F_Forest_of [eS text] = .ret (eFor (f_Forest_of text)) := by
  refine (runF_at [.v (eS text), .e, .e, .e] rfl rfl).trans ?_
  unfold B_Forest_of
  rw [show _ = _ from b_Forest_of text h]
  rfl
end Q03
end
section
set_option Elab.async false
set_option linter.all false
set_option maxRecDepth 1000000
set_option maxHeartbeats 1000000
/-! k03: the grammar of forests' texts: the law's own reader is sound and misses nothing -/
namespace Q03
open PySem DL L2 Pk Pg0
def FT : Fo → List Nat
  | .nil => []
  | .cons x p r => cs x ++ tail p ++ jn r
theorem tail_ft : ∀ p : Fo, tail p = if p = .nil then [] else 40 :: (FT p ++ [41])
  | .nil => by rw [if_pos rfl]; rfl
  | .cons y q t => by
    rw [if_neg (fun e => by cases e), tail_cons]; rfl
theorem jn_ft : ∀ r : Fo, jn r = if r = .nil then [] else 32 :: FT r
  | .nil => by rw [if_pos rfl]; rfl
  | .cons x p r => by
    rw [if_neg (fun e => by cases e), jn_cons]; rfl
/-- a name -/
def vn (x : Str) : Prop := 0 < (cs x).length ∧ (cs x).length < 9 ∧ ∀ c ∈ cs x, letC c = true
def vf : Fo → Prop
  | .nil => True
  | .cons x p r => vn x ∧ vf p ∧ vf r
def strOf8 (w : List Nat) : Str := ⟨w.toArray⟩
theorem cs_of (w : List Nat) : cs (strOf8 w) = w := rfl
theorem of_cs (x : Str) : strOf8 (cs x) = x := cs_inj rfl
def oneT (R : List Nat → Option (Fo × List Nat)) (w : List Nat) : Option (Str × Fo × List Nat) :=
  if 0 < (w.takeWhile letC).length ∧ (w.takeWhile letC).length < 9 then
    (if (w.dropWhile letC).head? = some 40 then
      (R (w.dropWhile letC).tail).bind fun q => if q.2.head? = some 41 then some (strOf8 (w.takeWhile letC), q.1, q.2.tail) else none
    else some (strOf8 (w.takeWhile letC), .nil, w.dropWhile letC))
  else none
def loopT (R : List Nat → Option (Fo × List Nat)) : Nat → List Nat → Option (Fo × List Nat)
  | 0, _ => none
  | m + 1, w => (oneT R w).bind fun q =>
    if q.2.2.head? = some 32 then (loopT R m q.2.2.tail).map fun y => (.cons q.1 q.2.1 y.1, y.2)
    else some (.cons q.1 q.2.1 .nil, q.2.2)
theorem head_tail {c : Nat} {w : List Nat} (h : w.head? = some c) : w = c :: w.tail := by
  cases w with
  | nil => cases h
  | cons x t =>
    have h : some x = some c := h
    cases h; rfl
def gr : Nat → List Nat → Option (Fo × List Nat)
  | 0, _ => none
  | n + 1, w => loopT (gr n) (w.length + 1) w
theorem tw_all : ∀ (xs rest : List Nat), (∀ c ∈ xs, letC c = true) → (∀ c t, rest = c :: t → letC c = false) → (xs ++ rest).takeWhile letC = xs ∧ (xs ++ rest).dropWhile letC = rest
  | [], rest, _, h => by
    cases rest with
    | nil => exact ⟨rfl, rfl⟩
    | cons c t =>
      have := h c t rfl
      constructor
      · show List.takeWhile letC (c :: t) = []
        rw [List.takeWhile_cons, if_neg (by rw [this]; decide)]
      · show List.dropWhile letC (c :: t) = c :: t
        rw [List.dropWhile_cons, if_neg (by rw [this]; decide)]
  | x :: xs, rest, hx, h => by
    obtain ⟨a, b⟩ := tw_all xs rest (fun c hc => hx c (List.mem_cons_of_mem _ hc)) h
    have hx0 := hx x (List.mem_cons_self ..)
    constructor
    · show List.takeWhile letC (x :: (xs ++ rest)) = _
      rw [List.takeWhile_cons, if_pos hx0, a]
    · show List.dropWhile letC (x :: (xs ++ rest)) = _
      rw [List.dropWhile_cons, if_pos hx0, b]
theorem l40 : letC 40 = false := by decide +kernel
theorem l41 : letC 41 = false := by decide +kernel
theorem l32 : letC 32 = false := by decide +kernel
/-! ### sound -/
def Snd (R : List Nat → Option (Fo × List Nat)) : Prop := ∀ w f r, R w = some (f, r) → f ≠ .nil ∧ vf f ∧ w = FT f ++ r
theorem tw_mem {w : List Nat} : ∀ c ∈ w.takeWhile letC, letC c = true := by
  induction w with
  | nil => intro c hc; cases hc
  | cons x xs ih =>
    intro c hc
    rw [List.takeWhile_cons] at hc
    split at hc
    · rename_i h
      rcases List.mem_cons.mp hc with rfl | hc
      · exact h
      · exact ih c hc
    · cases hc
theorem one_sound {R : List Nat → Option (Fo × List Nat)} (hR : Snd R) {w : List Nat} {x : Str} {p : Fo} {r : List Nat} (h : oneT R w = some (x, p, r)) : vn x ∧ vf p ∧ w = cs x ++ tail p ++ r := by
  unfold oneT at h
  split at h
  · rename_i hl
    have wd : w.takeWhile letC ++ w.dropWhile letC = w := List.takeWhile_append_dropWhile
    have v : vn (strOf8 (w.takeWhile letC)) := ⟨hl.1, hl.2, fun c hc => tw_mem c hc⟩
    split at h
    · rename_i e1
      obtain ⟨q, e2, h⟩ := Option.bind_eq_some_iff.mp h
      split at h
      · rename_i e3
        cases h
        obtain ⟨a, b, c⟩ := hR _ q.1 q.2 e2
        refine ⟨v, b, ?_⟩
        rw [tail_ft, if_neg a, cs_of]
        have d : w.dropWhile letC = 40 :: (FT q.1 ++ (41 :: q.2.tail)) := by rw [head_tail e1, c, ← head_tail e3]
        conv => lhs; rw [← wd, d]
        simp
      · cases h
    · cases h
      refine ⟨v, trivial, ?_⟩
      rw [tail_ft, if_pos rfl, cs_of, List.append_nil]
      exact wd.symm
  · cases h
theorem loop_sound {R : List Nat → Option (Fo × List Nat)} (hR : Snd R) : ∀ m, Snd (loopT R m)
  | 0, w, f, r, h => by cases h
  | m + 1, w, f, r, h => by
    unfold loopT at h
    obtain ⟨q, e0, h⟩ := Option.bind_eq_some_iff.mp h
    obtain ⟨a, b, c⟩ := one_sound hR (x := q.1) (p := q.2.1) (r := q.2.2) e0
    split at h
    · rename_i e1
      obtain ⟨y, e2, h⟩ := Option.map_eq_some_iff.mp h
      cases h
      obtain ⟨d1, d2, d3⟩ := loop_sound hR m _ y.1 y.2 e2
      refine ⟨(fun e => by cases e), ⟨a, b, d2⟩, ?_⟩
      show w = cs q.1 ++ tail q.2.1 ++ jn y.1 ++ y.2
      rw [jn_ft, if_neg d1, c]
      conv => lhs; rw [head_tail e1, d3]
      simp
    · cases h
      refine ⟨(fun e => by cases e), ⟨a, b, trivial⟩, ?_⟩
      show w = cs q.1 ++ tail q.2.1 ++ jn .nil ++ q.2.2
      rw [jn_ft, if_pos rfl, List.append_nil]
      exact c
theorem gr_sound : ∀ n, Snd (gr n)
  | 0, w, f, r, h => by cases h
  | n + 1, w, f, r, h => loop_sound (gr_sound n) _ _ _ _ h
/-! ### misses nothing -/
def Flw (r : List Nat) : Prop := ∀ c t, r = c :: t → letC c = false ∧ c ≠ 40 ∧ c ≠ 32
theorem flw_nil : Flw [] := fun c t e => by cases e
theorem flw_41 (r : List Nat) : Flw (41 :: r) := fun c t e => by cases e; exact ⟨l41, by decide, by decide⟩
theorem one_full {R : List Nat → Option (Fo × List Nat)} {x : Str} {p : Fo} {rest : List Nat} (hx : vn x) (hp : p ≠ .nil → R (FT p ++ 41 :: rest) = some (p, 41 :: rest)) (hr : ∀ c t, rest = c :: t → letC c = false ∧ c ≠ 40) : oneT R (cs x ++ tail p ++ rest) = some (x, p, rest) := by
  obtain ⟨x1, x2, x3⟩ := hx
  by_cases c : p = .nil
  · subst c
    rw [tail_ft, if_pos rfl, List.append_nil]
    obtain ⟨a, b⟩ := tw_all (cs x) rest x3 fun c t e => (hr c t e).1
    unfold oneT
    rw [a, b, if_pos ⟨x1, x2⟩, of_cs, if_neg]
    intro e
    exact (hr _ _ (head_tail e)).2 rfl
  · rw [tail_ft, if_neg c, List.append_assoc]
    have e : (40 :: (FT p ++ [41])) ++ rest = 40 :: (FT p ++ 41 :: rest) := by simp
    rw [e]
    obtain ⟨a, b⟩ := tw_all (cs x) (40 :: (FT p ++ 41 :: rest)) x3 fun c t e => by cases e; exact l40
    unfold oneT
    rw [a, b, if_pos ⟨x1, x2⟩, of_cs, if_pos (show (40 :: (FT p ++ 41 :: rest)).head? = some 40 from rfl)]
    show (R (FT p ++ 41 :: rest)).bind _ = _
    rw [hp c]
    rfl
theorem loop_full {n : Nat} (hR : ∀ p : Fo, p ≠ .nil → vf p → hgt p ≤ n → ∀ r, Flw r → gr n (FT p ++ r) = some (p, r)) : ∀ (f : Fo), f ≠ .nil → vf f → hgt f ≤ n + 1 → ∀ m r, Flw r → (FT f ++ r).length < m → loopT (gr n) m (FT f ++ r) = some (f, r)
  | .nil, h, _, _, _, _, _, _ => absurd rfl h
  | .cons x p g, _, hv, hh, 0, r, hr, hm => absurd hm (Nat.not_lt_zero _)
  | .cons x p g, _, hv, hh, m + 1, r, hr, hm => by
    have hh : max (hgt p + 1) (hgt g) ≤ n + 1 := hh
    obtain ⟨vx, vp, vg⟩ := hv
    have hp : ∀ rest, p ≠ .nil → gr n (FT p ++ 41 :: rest) = some (p, 41 :: rest) := fun rest ne => hR p ne vp (by omega) _ (flw_41 rest)
    by_cases c : g = .nil
    · subst c
      have e : FT (.cons x p .nil) ++ r = cs x ++ tail p ++ r := by
        show cs x ++ tail p ++ jn .nil ++ r = _
        rw [jn_ft, if_pos rfl, List.append_nil]
      rw [e]
      unfold loopT
      rw [one_full vx (hp r) fun c t e => ⟨(hr c t e).1, (hr c t e).2.1⟩]
      show (if r.head? = some 32 then _ else _) = _
      rw [if_neg fun e => (hr _ _ (head_tail e)).2.2 rfl]
    · have e : FT (.cons x p g) ++ r = cs x ++ tail p ++ (32 :: (FT g ++ r)) := by
        show cs x ++ tail p ++ jn g ++ r = _
        rw [jn_ft, if_neg c]
        simp
      rw [e] at hm ⊢
      unfold loopT
      rw [one_full vx (hp _) fun c t e => by cases e; exact ⟨l32, by decide⟩]
      have := loop_full hR g c vg (by omega) m r hr (by rw [List.length_append, List.length_cons] at hm; omega)
      show ((loopT (gr n) m (FT g ++ r)).map _) = _
      rw [this]
      rfl
theorem gr_full : ∀ (n : Nat) (p : Fo), p ≠ .nil → vf p → hgt p ≤ n → ∀ r, Flw r → gr n (FT p ++ r) = some (p, r)
  | 0, .nil, h, _, _, _, _ => absurd rfl h
  | 0, .cons x p g, _, _, hh, _, _ => by
    have hh : max (hgt p + 1) (hgt g) ≤ 0 := hh
    omega
  | n + 1, p, h, hv, hh, r, hr => loop_full (fun q hq vq hq2 => gr_full n q hq vq hq2) p h hv hh _ r hr (by omega)
/-- what the law's own reader reads of a whole text -/
def readT (n : Nat) (w : List Nat) : Option Fo := if w = [45] then some .nil else (gr n w).bind fun q => if q.2 = [] then some q.1 else none
/-- a text, and the trees it tells -/
def Tells (w : List Nat) (f : Fo) : Prop := (w = [45] ∧ f = .nil) ∨ (f ≠ .nil ∧ vf f ∧ w = FT f)
theorem read_tells {n : Nat} {w : List Nat} {f : Fo} (h : readT n w = some f) : Tells w f := by
  unfold readT at h
  split at h
  · rename_i e
    cases h
    exact .inl ⟨e, rfl⟩
  · obtain ⟨q, e, h⟩ := Option.bind_eq_some_iff.mp h
    split at h
    · rename_i e2
      cases h
      obtain ⟨a, b, c⟩ := gr_sound n _ q.1 q.2 e
      rw [e2, List.append_nil] at c
      exact .inr ⟨a, b, c⟩
    · cases h
theorem tells_read {n : Nat} {w : List Nat} {f : Fo} (h : Tells w f) (hn : hgt f ≤ n) : readT n w = some f := by
  rcases h with ⟨rfl, rfl⟩ | ⟨a, b, c⟩
  · rfl
  · subst c
    have g := gr_full n f a b hn [] flw_nil
    rw [List.append_nil] at g
    unfold readT
    rw [g, if_neg]
    · rfl
    intro e
    cases f with
    | nil => exact a rfl
    | cons x p r =>
      obtain ⟨v1, v2, v3⟩ := b.1
      have e : cs x ++ tail p ++ jn r = [45] := e
      cases q : cs x with
      | nil => rw [q] at v1; exact absurd v1 (by decide)
      | cons c t =>
        rw [q] at e v3
        injection e with e1 _
        have := v3 c (List.mem_cons_self ..)
        rw [e1] at this
        exact absurd this (by decide +kernel)
end Q03
end
section
set_option Elab.async false
set_option linter.all false
set_option maxRecDepth 1000000
set_option maxHeartbeats 1000000
/-! k03: what rows_in reads, what text_of writes -/
namespace Q03
open PySem DL L2 Pk Pg0
def dl (c : Nat) : Int := (if decide (one c = ("(" : Str)) = true then 1 else 0) - (if decide (one c = (")" : Str)) = true then 1 else 0)
theorem one_eq {c : Nat} {d : Nat} (h : c ≠ d) : one c ≠ one d := fun e => h (by
  have := congrArg cs e
  have this : [c] = [d] := this
  injection this)
theorem dl_40 : dl 40 = 1 := by decide +kernel
theorem dl_41 : dl 41 = -1 := by decide +kernel
theorem dl_32 : dl 32 = 0 := by decide +kernel
theorem dl_let {c : Nat} (h : letC c = true) : dl c = 0 := by
  have h1 : c ≠ 40 := fun e => by rw [e, l40] at h; cases h
  have h2 : c ≠ 41 := fun e => by rw [e, l41] at h; cases h
  unfold dl
  rw [decide_eq_false (show one c ≠ ("(" : Str) from one_eq (d := 40) h1), decide_eq_false (show one c ≠ (")" : Str) from one_eq (d := 41) h2)]
  rfl
theorem st_let {F : List (Int × Str)} {n : Str} {d : Int} {c : Nat} (h : letC c = true) : stR (F, n, d) c = (F, n ++ one c, d) := by
  have e : stR (F, n, d) c = (F, n ++ one c, d + (if decide (one c = ("(" : Str)) = true then 1 else 0) - (if decide (one c = (")" : Str)) = true then 1 else 0)) := by
    unfold stR
    rw [if_pos h]
  have z := dl_let h
  unfold dl at z
  rw [e, show d + (if decide (one c = ("(" : Str)) = true then (1 : Int) else 0) - (if decide (one c = (")" : Str)) = true then (1 : Int) else 0) = d by omega]
theorem st_push {F : List (Int × Str)} {n : Str} {d : Int} {c : Nat} (h : letC c = false) (hn : n ≠ "") : stR (F, n, d) c = (F ++ [(d, n)], ("" : Str), d + dl c) := by
  unfold stR
  rw [if_neg (by rw [h]; decide), if_neg (by show ¬ decide (n = "") = true; rw [decide_eq_false hn]; decide)]
  unfold dl
  show (F ++ [(d, n)], ("" : Str), d + _ - _) = _
  rw [show d + (if decide (one c = ("(" : Str)) = true then (1 : Int) else 0) - (if decide (one c = (")" : Str)) = true then (1 : Int) else 0) = d + ((if decide (one c = ("(" : Str)) = true then (1 : Int) else 0) - (if decide (one c = (")" : Str)) = true then (1 : Int) else 0)) by omega]
theorem st_skip {F : List (Int × Str)} {d : Int} {c : Nat} (h : letC c = false) : stR (F, ("" : Str), d) c = (F, ("" : Str), d + dl c) := by
  unfold stR
  rw [if_neg (by rw [h]; decide), if_pos (by show decide (("" : Str) = "") = true; exact decide_eq_true rfl)]
  unfold dl
  show (F, ("" : Str), d + _ - _) = _
  rw [show d + (if decide (one c = ("(" : Str)) = true then (1 : Int) else 0) - (if decide (one c = (")" : Str)) = true then (1 : Int) else 0) = d + ((if decide (one c = ("(" : Str)) = true then (1 : Int) else 0) - (if decide (one c = (")" : Str)) = true then (1 : Int) else 0)) by omega]
theorem app_one (n : Str) (c : Nat) (w : List Nat) : n ++ one c ++ strOf8 w = n ++ strOf8 (c :: w) := cs_inj (by rw [cs_app, cs_app, cs_app, cs_of, cs_of, List.append_assoc]; rfl)
theorem run_lets : ∀ (w : List Nat) (F : List (Int × Str)) (n : Str) (d : Int), (∀ c ∈ w, letC c = true) → w.foldl stR (F, n, d) = (F, n ++ strOf8 w, d)
  | [], F, n, d, _ => by
    have : n ++ strOf8 [] = n := cs_inj (by rw [cs_app, cs_of, List.append_nil])
    rw [this]; rfl
  | c :: w, F, n, d, h => by
    rw [List.foldl_cons, st_let (h c (List.mem_cons_self ..)), run_lets w F (n ++ one c) d fun x hx => h x (List.mem_cons_of_mem _ hx), app_one]
theorem run_name {x : Str} (h : vn x) (F : List (Int × Str)) (d : Int) : (cs x).foldl stR (F, ("" : Str), d) = (F, x, d) := by
  rw [run_lets _ F "" d h.2.2, of_cs]
  have : ("" : Str) ++ x = x := cs_inj (by rw [cs_app, cs_nil]; rfl)
  rw [this]
theorem vn_ne {x : Str} (h : vn x) : x ≠ "" := fun e => by
  have := h.1
  rw [e, cs_nil] at this
  exact absurd this (by decide)
/-! ### reading a tree's text gives its nodes -/
theorem rows_ft : ∀ (f : Fo), f ≠ .nil → vf f → ∀ (F : List (Int × Str)) (d : Int) (c : Nat), letC c = false → (FT f ++ [c]).foldl stR (F, ("" : Str), d) = (F ++ nodes d f, ("" : Str), d + dl c)
  | .nil, h, _, _, _, _, _ => absurd rfl h
  | .cons x p r, _, hv, F, d, c, hc => by
    obtain ⟨vx, vp, vr⟩ := hv
    show ((cs x ++ tail p ++ jn r) ++ [c]).foldl stR _ = (F ++ (d, x) :: (nodes (d + 1) p ++ nodes d r), ("" : Str), d + dl c)
    rw [List.append_assoc, List.append_assoc, List.foldl_append, run_name vx]
    by_cases cp : p = .nil
    · subst cp
      rw [tail_ft, if_pos rfl, List.nil_append]
      by_cases cr : r = .nil
      · subst cr
        rw [jn_ft, if_pos rfl, List.nil_append, List.foldl_cons, List.foldl_nil, st_push hc (vn_ne vx)]
        rfl
      · rw [jn_ft, if_neg cr]
        show (32 :: (FT r ++ [c])).foldl stR _ = _
        rw [List.foldl_cons, st_push l32 (vn_ne vx), rows_ft r cr vr _ _ c hc, dl_32, Int.add_zero, List.append_assoc]
        rfl
    · rw [tail_ft, if_neg cp]
      have e : (40 :: (FT p ++ [41])) ++ (jn r ++ [c]) = 40 :: ((FT p ++ [41]) ++ (jn r ++ [c])) := rfl
      rw [e, List.foldl_cons, st_push l40 (vn_ne vx), List.foldl_append, rows_ft p cp vp _ _ 41 l41, dl_40, dl_41]
      have e2 : d + 1 + (-1 : Int) = d := by omega
      rw [e2]
      by_cases cr : r = .nil
      · subst cr
        rw [jn_ft, if_pos rfl, List.nil_append, List.foldl_cons, List.foldl_nil, st_skip hc]
        show (F ++ [(d, x)] ++ nodes (d + 1) p, _, _) = (F ++ (d, x) :: (nodes (d + 1) p ++ []), _, _)
        rw [List.append_nil, List.append_assoc]
        rfl
      · rw [jn_ft, if_neg cr]
        show (32 :: (FT r ++ [c])).foldl stR _ = _
        rw [List.foldl_cons, st_skip l32, rows_ft r cr vr _ _ c hc, dl_32, Int.add_zero, List.append_assoc, List.append_assoc]
        rfl
theorem rows_tells {s : Str} {f : Fo} (h : Tells (cs s) f) : rowsR s = nodes 1 f := by
  unfold rowsR
  rcases h with ⟨e, rfl⟩ | ⟨a, b, e⟩
  · have : s.cps.toList = [45] := e
    rw [this]
    have l45 : letC 45 = false := by decide +kernel
    show ([45, 32].foldl stR _).1 = _
    rw [List.foldl_cons, List.foldl_cons, List.foldl_nil, st_skip l45, st_skip l32]
    rfl
  · have : s.cps.toList = FT f := e
    rw [this, rows_ft f a b [] 1 32 l32]
    rfl
/-! ### what text_of writes -/
def TT : Int → List (Int × Str) → List Nat
  | _, [] => []
  | b, x :: L => (if b < x.1 then [40] else par (b - x.1).toNat ++ [32]) ++ (cs x.2 ++ TT x.1 L)
theorem text_tt : ∀ (L : List (Int × Str)) (z : Str × Int), cs (L.foldl f_text_of_1 z).1 = cs z.1 ++ TT z.2 L
  | [], z => (List.append_nil _).symm
  | x :: L, z => by
    rw [List.foldl_cons, text_tt L]
    show cs ((z.1 ++ (if (decide (z.2 < x.1)) = true then ("(" : Str) else ((smul (")" : Str) (z.2 - x.1)) ++ (" " : Str)))) ++ x.2) ++ TT x.1 L = cs z.1 ++ ((if z.2 < x.1 then [40] else par (z.2 - x.1).toNat ++ [32]) ++ (cs x.2 ++ TT x.1 L))
    rw [cs_app, cs_app]
    by_cases c : z.2 < x.1
    · rw [if_pos (decide_eq_true c), if_pos c, cs_open]
      simp
    · rw [if_neg (by rw [decide_eq_false c]; decide), if_neg c, cs_app, cs_smul, cs_sp]
      simp
theorem run_pars {F : List (Int × Str)} : ∀ (j : Nat) (e : Int), (par j ++ [32]).foldl stR (F, ("" : Str), e) = (F, ("" : Str), e - (j : Int))
  | 0, e => by
    show [32].foldl stR _ = _
    rw [List.foldl_cons, List.foldl_nil, st_skip l32, dl_32]
    simp
  | j + 1, e => by
    show (41 :: (par j ++ [32])).foldl stR _ = _
    rw [List.foldl_cons, st_skip l41, dl_41, run_pars j]
    congr 2
    omega
theorem run_close {F : List (Int × Str)} {n : Str} (hn : n ≠ "") (j : Nat) (e : Int) : (par j ++ [32]).foldl stR (F, n, e) = (F ++ [(e, n)], ("" : Str), e - (j : Int)) := by
  cases j with
  | zero =>
    show [32].foldl stR _ = _
    rw [List.foldl_cons, List.foldl_nil, st_push l32 hn, dl_32]
    simp
  | succ j =>
    show (41 :: (par j ++ [32])).foldl stR _ = _
    rw [List.foldl_cons, st_push l41 hn, dl_41, run_pars j]
    congr 2
    omega
def nrm8 : Int → Int → List (Int × Str) → List (Int × Str)
  | _, _, [] => []
  | e, b, x :: L => ((if b < x.1 then e + 1 else e - ((b - x.1).toNat : Int)), x.2) :: nrm8 (if b < x.1 then e + 1 else e - ((b - x.1).toNat : Int)) x.1 L
theorem run_tt : ∀ (L : List (Int × Str)) (F : List (Int × Str)) (n : Str) (e b : Int) (k : Nat), n ≠ "" → (∀ q ∈ L, vn q.2) → ((TT b L ++ (par k ++ [32])).foldl stR (F, n, e)).1 = F ++ (e, n) :: nrm8 e b L
  | [], F, n, e, b, k, hn, _ => by
    show ((par k ++ [32]).foldl stR (F, n, e)).1 = _
    rw [run_close hn]; rfl
  | x :: L, F, n, e, b, k, hn, hv => by
    have vx := hv x (List.mem_cons_self ..)
    have hL := fun q hq => hv q (List.mem_cons_of_mem x hq)
    show ((((if b < x.1 then [40] else par (b - x.1).toNat ++ [32]) ++ (cs x.2 ++ TT x.1 L)) ++ (par k ++ [32])).foldl stR (F, n, e)).1 = F ++ (e, n) :: ((if b < x.1 then e + 1 else e - ((b - x.1).toNat : Int)), x.2) :: nrm8 (if b < x.1 then e + 1 else e - ((b - x.1).toNat : Int)) x.1 L
    rw [List.append_assoc, List.foldl_append, List.append_assoc, List.foldl_append]
    by_cases c : b < x.1
    · rw [if_pos c, if_pos c, List.foldl_cons, List.foldl_nil, st_push l40 hn, dl_40, run_name vx, run_tt L _ _ _ _ k (vn_ne vx) hL, List.append_assoc]
      rfl
    · rw [if_neg c, if_neg c, run_close hn, run_name vx, run_tt L _ _ _ _ k (vn_ne vx) hL, List.append_assoc]
      rfl
theorem nrm_okr : ∀ (L : List (Int × Str)) (b : Int), L = nrm8 b b L → (∀ x ∈ L, 0 < x.1) → Okr b L
  | [], _, _, _ => trivial
  | x :: L, b, h, hp => by
    unfold nrm8 at h
    injection h with h1 h2
    have e : x.1 = if b < x.1 then b + 1 else b - ((b - x.1).toNat : Int) := congrArg Prod.fst h1
    have x0 := hp x (List.mem_cons_self ..)
    have up : x.1 ≤ b + 1 := by
      by_cases c : b < x.1
      · rw [if_pos c] at e; omega
      · omega
    rw [← e] at h2
    exact ⟨x0, up, nrm_okr L x.1 h2 fun y hy => hp y (List.mem_cons_of_mem _ hy)⟩
/-- rows that are read from their own text are those of trees -/
theorem own_okr {rows : List (Int × Str)} (hv : ∀ q ∈ rows, vn q.2) (hp : ∀ q ∈ rows, 0 < q.1) (h : rowsR (f_text_of rows) = rows) : Okr 0 rows := by
  cases rows with
  | nil => trivial
  | cons q L =>
    have vq := hv q (List.mem_cons_self ..)
    have t : cs (f_text_of (q :: L)) = cs q.2 ++ (TT 1 L ++ par ((L.foldl f_text_of_1 (q.2, (1 : Int))).2 - 1).toNat) := by
      unfold f_text_of
      rw [if_neg (by rw [decide_eq_false (show ¬ (((q :: L).length : Nat) : Int) = 0 by rw [List.length_cons]; omega)]; decide)]
      have i0 : ixD (q :: L) (0 : Int) = q := by rw [show (0 : Int) = ((0 : Nat) : Int) from rfl]; exact ixD_nat rfl
      rw [i0, cs_app, cs_smul]
      show cs (L.foldl f_text_of_1 (q.2, (1 : Int))).1 ++ par ((L.foldl f_text_of_1 (q.2, (1 : Int))).2 - 1).toNat = _
      rw [text_tt L (q.2, 1), List.append_assoc]
    unfold rowsR at h
    have t : (f_text_of (q :: L)).cps.toList = cs q.2 ++ (TT 1 L ++ par ((L.foldl f_text_of_1 (q.2, (1 : Int))).2 - 1).toNat) := t
    rw [t, List.append_assoc, List.append_assoc, List.foldl_append, run_name vq, run_tt L _ _ _ _ _ (vn_ne vq) fun x hx => hv x (List.mem_cons_of_mem _ hx)] at h
    have h : (1, q.2) :: nrm8 1 1 L = q :: L := h
    injection h with h1 h2
    have q1 : q.1 = 1 := by rw [← h1]
    refine ⟨by omega, by omega, ?_⟩
    rw [q1]
    exact nrm_okr L 1 h2.symm fun x hx => hp x (List.mem_cons_of_mem _ hx)
end Q03
end
section
set_option Elab.async false
set_option linter.all false
set_option maxRecDepth 1000000
set_option maxHeartbeats 2000000
/-! k03: the law's own reader, as it runs -/
namespace Q03
open PySem DL L2 Pk Pg0
/-! ### while -/
theorem wh_go {t : SB} {body : ST} {n : Nat} {Δ Δ1 : List Sl} {o : Pg Out} (ht : t Δ = .ret true) (hb : body Δ = .ret (.nx Δ1)) (h : whP t body n Δ1 = o) : whP t body (n + 1) Δ = o := by
  show (t Δ).bind _ = _
  rw [ht]
  show (body Δ).bind _ = _
  rw [hb]; exact h
theorem wh_end {t : SB} {body : ST} {n : Nat} {Δ : List Sl} (ht : t Δ = .ret false) : whP t body (n + 1) Δ = .ret (.nx Δ) := by
  show (t Δ).bind _ = _
  rw [ht]; rfl
theorem wh_rt {t : SB} {body : ST} {n : Nat} {Δ : List Sl} {d : D} (ht : t Δ = .ret true) (hb : body Δ = .ret (.rt d)) : whP t body (n + 1) Δ = .ret (.rt d) := by
  show (t Δ).bind _ = _
  rw [ht]
  show (body Δ).bind _ = _
  rw [hb]; rfl
theorem sq_rt {a b : ST} {Δ : List Sl} {d : D} (h : a Δ = .ret (.rt d)) : DL.tSeq a b Δ = .ret (.rt d) := by
  show (a Δ).bind _ = _
  rw [h]; rfl
/-! ### slices -/
theorem cs_len (s : Str) : (cs s).length = s.length := Array.length_toList
theorem six_nat (n q m : Nat) : HT.sIx n q (some (m : Int)) = min m n := by
  unfold HT.sIx
  simp
  intro h
  omega
theorem cs_cut (s : Str) (j b : Nat) : cs (cutS s (some (j : Int)) (some ((j + b : Nat) : Int))) = ((cs s).drop j).take b := by
  unfold cutS
  show (List.take (HT.sIx s.length s.length (some ((j + b : Nat) : Int)) - HT.sIx s.length 0 (some (j : Int))) (List.drop (HT.sIx s.length 0 (some (j : Int))) (cs s))) = _
  have e1 : HT.sIx s.length 0 (some (j : Int)) = min j s.length := six_nat _ _ _
  have e2 : HT.sIx s.length s.length (some ((j + b : Nat) : Int)) = min (j + b) s.length := six_nat _ _ _
  rw [e1, e2, ← cs_len]
  by_cases c : j ≤ (cs s).length
  · rw [Nat.min_eq_left c]
    by_cases d : j + b ≤ (cs s).length
    · rw [Nat.min_eq_left d, Nat.add_sub_cancel_left]
    · rw [Nat.min_eq_right (by omega), List.take_of_length_le (by rw [List.length_drop]; omega), List.take_of_length_le (by rw [List.length_drop]; omega)]
  · rw [Nat.min_eq_right (show (cs s).length ≤ j + b by omega), Nat.min_eq_right (show (cs s).length ≤ j by omega), List.drop_of_length_le (Nat.le_refl _), List.drop_of_length_le (show (cs s).length ≤ j by omega), List.take_nil, List.take_nil]
theorem cut_is {s : Str} {j : Nat} {c : Nat} : (cutS s (some (j : Int)) (some ((j : Int) + 1)) = one c) ↔ ((cs s).drop j).head? = some c := by
  have e : cs (cutS s (some (j : Int)) (some ((j : Int) + 1))) = ((cs s).drop j).take 1 := cs_cut s j 1
  constructor
  · intro h
    have := congrArg cs h
    rw [e] at this
    have this : ((cs s).drop j).take 1 = [c] := this
    cases q : (cs s).drop j with
    | nil => rw [q] at this; cases this
    | cons x t =>
      rw [q] at this
      have this : [x] = [c] := this
      injection this with h1
      rw [h1]; rfl
  · intro h
    apply cs_inj
    rw [e, head_tail h]
    rfl
/-! ### the state -/
abbrev ST8 (s : Str) (k : Int) (F : List (Str × Fo)) (l t o : Sl) : List Sl := [.v (eS s), .v (.int k), .o (.lst (F.map (e2 eS eFo))), l, t, o]
abbrev inC : SB := DL.tAnd (DL.tB (c2 (coO2 .Lt) (cVar 3) (c1 lenO' (cVw 0)))) (DL.tB (c2 (inO false) (c2 ixO (cVw 0) (cVar 3)) (cC (.str "abcdefghijklmnopqrstuvwxyz"))))
abbrev inB : ST := tSet 3 (oV (c2 addO (cVar 3) (cC (.int 1))))
theorem in_cond {s : Str} (hs : s.length ≤ 1000) {k : Int} {F : List (Str × Fo)} {t o : Sl} (l : Nat) : inC (ST8 s k F (.v (.int (l : Int))) t o) = .ret (match (cs s).drop l with | [] => false | c :: _ => letC c) := by
  have len : (c1 lenO' (cVw 0)) (ST8 s k F (.v (.int (l : Int))) t o) = .ret (.int (s.length : Int)) := q_1 (q_vw rfl) (by
    show (if s.length ≤ lim then some (D.int s.length) else none) = _
    rw [if_pos (lim_le (by omega))])
  have a : (DL.tB (c2 (coO2 .Lt) (cVar 3) (c1 lenO' (cVw 0)))) (ST8 s k F (.v (.int (l : Int))) t o) = .ret (decide ((l : Int) < (s.length : Int))) := q_tB (q_2 (q_var rfl) len o_ltI2)
  cases q : (cs s).drop l with
  | nil =>
    have hl : (cs s).length ≤ l := List.drop_eq_nil_iff.mp q
    rw [cs_len] at hl
    rw [decide_eq_false (by omega)] at a
    exact q_tAndF a
  | cons c w =>
    have hl : l < (cs s).length := by
      refine Classical.byContradiction fun z => ?_
      rw [List.drop_of_length_le (by omega)] at q; cases q
    have gc : (cs s)[l]? = some c := by
      have := congrArg List.head? q
      rw [List.head?_drop] at this
      exact this
    rw [cs_len] at hl
    rw [decide_eq_true (show (l : Int) < (s.length : Int) by omega)] at a
    have ix : ixO (eS s) (.int (l : Int)) = some (.str (one c)) := by
      show (if s.length ≤ lim then (atI (cs s) (l : Int)).map fun c => D.str ⟨#[c]⟩ else none) = _
      rw [if_pos (lim_le (by omega)), atI_nat', gc]; rfl
    have b : (DL.tB (c2 (inO false) (c2 ixO (cVw 0) (cVar 3)) (cC (.str "abcdefghijklmnopqrstuvwxyz")))) (ST8 s k F (.v (.int (l : Int))) t o) = .ret (letC c) := q_tB (q_2 (q_2 (q_vw rfl) (q_var rfl) ix) q_C rfl)
    exact q_tAnd a fun _ => b
theorem in_loop {s : Str} (hs : s.length ≤ 1000) {k : Int} {F : List (Str × Fo)} {t o : Sl} : ∀ (w : List Nat) (l fu : Nat), (cs s).drop l = w → w.length < fu → whP inC inB fu (ST8 s k F (.v (.int (l : Int))) t o) = .ret (.nx (ST8 s k F (.v (.int ((l + (w.takeWhile letC).length : Nat) : Int))) t o))
  | [], l, fu, h, hf => by
    obtain ⟨m, rfl⟩ : ∃ m, fu = m + 1 := ⟨fu - 1, by have : 0 < fu := hf; omega⟩
    have c := in_cond hs (k := k) (F := F) (t := t) (o := o) l
    rw [h] at c
    exact wh_end c
  | c :: w, l, fu, h, hf => by
    obtain ⟨m, rfl⟩ : ∃ m, fu = m + 1 := ⟨fu - 1, by rw [List.length_cons] at hf; omega⟩
    have cd := in_cond hs (k := k) (F := F) (t := t) (o := o) l
    rw [h] at cd
    have cd : inC (ST8 s k F (.v (.int (l : Int))) t o) = .ret (letC c) := cd
    rw [List.takeWhile_cons]
    cases q : letC c with
    | false =>
      rw [q] at cd
      rw [if_neg (by decide)]
      exact wh_end cd
    | true =>
      rw [q] at cd
      rw [if_pos rfl]
      have nx : (cs s).drop (l + 1) = w := by
        have := congrArg List.tail h
        rw [List.tail_drop] at this
        exact this
      have ih := in_loop hs (k := k) (F := F) (t := t) (o := o) w (l + 1) m nx (by rw [List.length_cons] at hf; omega)
      refine wh_go cd (z_setO (Δ1 := ST8 s k F (.v (.int ((l + 1 : Nat) : Int))) t o) (o_v (q_2 (q_var rfl) q_C rfl))) ?_
      rw [ih, List.length_cons, show l + 1 + (List.takeWhile letC w).length = l + ((List.takeWhile letC w).length + 1) by omega]
end Q03
end
section
set_option Elab.async false
set_option linter.all false
set_option maxRecDepth 1000000
set_option maxHeartbeats 2000000
/-! k03: the law's own reader, one tree and on -/
namespace Q03
open PySem DL L2 Pk Pg0
def g0 : ST := (tSet 3 (oV (cVar 1)))
def g1 : ST := (tWh (fun _ => 1000000) (DL.tAnd (DL.tB (c2 (coO2 .Lt) (cVar 3) (c1 lenO' (cVw 0)))) (DL.tB (c2 (inO false) (c2 ixO (cVw 0) (cVar 3)) (cC (.str "abcdefghijklmnopqrstuvwxyz"))))) (tSet 3 (oV (c2 addO (cVar 3) (cC (.int 1))))))
def g2 : ST := (DL.tIf (DL.tNot (DL.tB (cCh .Lt .Lt (cC (.int 0)) (c2 subO (cVar 3) (cVar 1)) (cC (.int 9))))) (DL.tRet (cC .non)) DL.tNil)
def g3 : ST := (tPar3 4 5 1 (oV (cSl (cVw 0) (cVar 1) (cVar 3))) (oV (cTup (aC (cTup aN) (aC (cVar 3) aN)))) (oV (cVar 3)))
def g4 (R : List D → Pg D) : ST := (DL.tIf (DL.tB (c2 (eqO false) (cSl (cVw 0) (cVar 1) (c2 addO (cVar 1) (cC (.int 1)))) (cC (.str "(")))) (DL.tSeq (tSet 5 (oV (cCall R (aC (cVar 0) (aC (c2 addO (cVar 1) (cC (.int 1))) aN))))) (DL.tSeq (DL.tIf (DL.tOr (DL.tB (c1 (nonO false) (cVar 5))) (DL.tB (c2 (eqO true) (cSl (cVw 0) (c2 ixO (cVw 5) (cC (.int 1))) (c2 addO (c2 ixO (cVw 5) (cC (.int 1))) (cC (.int 1)))) (cC (.str ")"))))) (DL.tRet (cC .non)) DL.tNil) (tSet 5 (oV (cTup (aC (c2 ixO (cVw 5) (cC (.int 0))) (aC (c2 addO (c2 ixO (cVw 5) (cC (.int 1))) (cC (.int 1))) aN))))))) DL.tNil)
def g5 : ST := (tX (xApp 2 (xE (cTup (aC (cVar 4) (aC (c2 ixO (cVw 5) (cC (.int 0))) aN))))))
def g6 : ST := (tSet 1 (oV (c2 ixO (cVw 5) (cC (.int 1)))))
def g7 : ST := (DL.tIf (DL.tB (c2 (eqO true) (cSl (cVw 0) (cVar 1) (c2 addO (cVar 1) (cC (.int 1)))) (cC (.str " ")))) (DL.tRet (cTup (aC (c1 tupO (cVw 2)) (aC (cVar 1) aN)))) DL.tNil)
def g8 : ST := (tSet 1 (oV (c2 addO (cVar 1) (cC (.int 1)))))
def gB (R : List D → Pg D) : ST := DL.tSeq g0 (DL.tSeq g1 (DL.tSeq g2 (DL.tSeq g3 (DL.tSeq (g4 R) (DL.tSeq g5 (DL.tSeq g6 (DL.tSeq g7 g8)))))))
theorem gB_is (R : List D → Pg D) : B__law_grown R = DL.tSeq (tSet 2 (oL (aL aN))) (tWh (fun _ => 1000000) (DL.tT (cC (.bl true))) (gB R)) := rfl
def encG (s : Str) : Option (Fo × List Nat) → D
  | none => .non
  | some q => .tup [eFo q.1, .int (((cs s).length - q.2.length : Nat) : Int)]
def cnt (w : List Nat) : Nat := w.countP fun c => c == 40
section
variable {s : Str} {F : List (Str × Fo)} {l t o : Sl}
/-- a slice of one sign: which sign -/
theorem sl_eq (hs : s.length ≤ 1000) {Δ : List Sl} {a b : SE} {w : SE} {j : Nat} {c : Nat} {neg : Bool} (hw : w Δ = .ret (eS s)) (ha : a Δ = .ret (.int (j : Int))) (hb : b Δ = .ret (.int ((j : Int) + 1))) : (DL.tB (c2 (eqO neg) (cSl w a b) (cC (.str (one c))))) Δ = .ret (if neg = true then !decide (((cs s).drop j).head? = some c) else decide (((cs s).drop j).head? = some c)) := by
  have sl : (cSl w a b) Δ = .ret (eS (cutS s (some (j : Int)) (some ((j : Int) + 1)))) := q_sl hw ha hb (by
    show (if s.length ≤ lim then some (D.str (cutS s (some (j : Int)) (some ((j : Int) + 1)))) else none) = _
    rw [if_pos (lim_le (by omega))])
  have e : decide (cutS s (some (j : Int)) (some ((j : Int) + 1)) = one c) = decide (((cs s).drop j).head? = some c) := by
    rw [Bool.eq_iff_iff, decide_eq_true_iff, decide_eq_true_iff]; exact cut_is
  rw [← e]
  exact q_tB (q_2 sl q_C rfl)
theorem tail_is (hs : s.length ≤ 1000) (hF : F.length ≤ 2000) {k1 k3 : Int} {x : Str} {p : Fo} {j : Nat} :
    (DL.tSeq g5 (DL.tSeq g6 (DL.tSeq g7 g8))) [.v (eS s), .v (.int k1), .o (.lst (F.map (e2 eS eFo))), .v (.int k3), .v (eS x), .v (.tup [eFo p, .int (j : Int)])] =
      if ((cs s).drop j).head? = some 32 then .ret (.nx (ST8 s ((j + 1 : Nat) : Int) (F ++ [(x, p)]) (.v (.int k3)) (.v (eS x)) (.v (.tup [eFo p, .int (j : Int)]))))
      else .ret (.rt (.tup [eT (e2 eS eFo) (F ++ [(x, p)]), .int (j : Int)])) := by
  have s5 : g5 [.v (eS s), .v (.int k1), .o (.lst (F.map (e2 eS eFo))), .v (.int k3), .v (eS x), .v (.tup [eFo p, .int (j : Int)])] = .ret (.nx (ST8 s k1 (F ++ [(x, p)]) (.v (.int k3)) (.v (eS x)) (.v (.tup [eFo p, .int (j : Int)])))) :=
    z_appL (f := e2 eS eFo) (xs := F) (x := (x, p)) rfl (q_tup (q_aC (q_var rfl) (q_aC (q_2 (q_vw rfl) q_C rfl) q_aN))) (lim_lt (by omega))
  have s6 : g6 (ST8 s k1 (F ++ [(x, p)]) (.v (.int k3)) (.v (eS x)) (.v (.tup [eFo p, .int (j : Int)]))) = .ret (.nx (ST8 s (j : Int) (F ++ [(x, p)]) (.v (.int k3)) (.v (eS x)) (.v (.tup [eFo p, .int (j : Int)])))) :=
    z_setO (o_v (q_2 (q_vw rfl) q_C rfl))
  have c7 := sl_eq (s := s) hs (Δ := ST8 s (j : Int) (F ++ [(x, p)]) (.v (.int k3)) (.v (eS x)) (.v (.tup [eFo p, .int (j : Int)]))) (w := cVw 0) (a := cVar 1) (b := c2 addO (cVar 1) (cC (.int 1))) (j := j) (c := 32) (neg := true) (q_vw rfl) (q_var rfl) (q_2 (q_var rfl) q_C rfl)
  rw [if_pos rfl] at c7
  refine z_seq s5 (z_seq s6 ?_)
  by_cases c : ((cs s).drop j).head? = some 32
  · rw [if_pos c]
    rw [decide_eq_true c] at c7
    refine z_seq (Δ1 := ST8 s (j : Int) (F ++ [(x, p)]) (.v (.int k3)) (.v (eS x)) (.v (.tup [eFo p, .int (j : Int)]))) (if_f c7 rfl) ?_
    exact z_setO (o_v (q_2 (q_var rfl) q_C rfl))
  · rw [if_neg c]
    rw [decide_eq_false c] at c7
    refine sq_rt (if_t c7 ?_)
    exact z_ret (q_tup (q_aC (q_1 (show cVw 2 _ = .ret (eL (e2 eS eFo) (F ++ [(x, p)])) from rfl) o_tupL) (q_aC (q_var rfl) q_aN)))
end
theorem dw_drop (w : List Nat) : w.dropWhile letC = w.drop (w.takeWhile letC).length := by
  have e : w.takeWhile letC ++ w.dropWhile letC = w := List.takeWhile_append_dropWhile
  conv => rhs; rw [← e]
  have : ∀ (a b : List Nat), (a ++ b).drop a.length = b := fun a b => List.drop_left
  have h := this (w.takeWhile letC) (w.dropWhile letC)
  rw [e] at h
  rw [e]
  exact h.symm
theorem cnt_drop (w : List Nat) (a : Nat) : cnt (w.drop a) ≤ cnt w := (List.drop_sublist a w).countP_le
theorem cnt_40 (w : List Nat) : cnt (40 :: w) = cnt w + 1 := by
  unfold cnt
  rw [List.countP_cons_of_pos (by rfl)]
/-- the body of the loop reads one tree -/
theorem body_is {s : Str} (hs : s.length ≤ 1000) {n : Nat} {R : List D → Pg D} (hR : ∀ (w : List Nat) (k : Nat), (cs s).drop k = w → k ≤ (cs s).length → cnt w < n → R [eS s, .int (k : Int)] = .ret (encG s (gr n w))) {F : List (Str × Fo)} (hF : F.length ≤ 2000) {l t o : Sl} {w : List Nat} {k : Nat} (hw : (cs s).drop k = w) (hk : k ≤ (cs s).length) (hc : cnt w ≤ n) :
    match oneT (gr n) w with
    | none => gB R (ST8 s (k : Int) F l t o) = .ret (.rt .non)
    | some q => ∃ l' t' o', q.2.2.length < w.length ∧ cnt q.2.2 ≤ cnt w ∧ (cs s).drop ((cs s).length - q.2.2.length) = q.2.2 ∧ q.2.2.length ≤ (cs s).length ∧
        gB R (ST8 s (k : Int) F l t o) = if q.2.2.head? = some 32 then .ret (.nx (ST8 s (((cs s).length - q.2.2.length + 1 : Nat) : Int) (F ++ [(q.1, q.2.1)]) l' t' o')) else .ret (.rt (.tup [eT (e2 eS eFo) (F ++ [(q.1, q.2.1)]), .int (((cs s).length - q.2.2.length : Nat) : Int)])) := by
  have lw : w.length = (cs s).length - k := by rw [← hw, List.length_drop]
  have tl_ : (w.takeWhile letC).length ≤ w.length := (List.takeWhile_sublist _).length_le
  generalize ha : (w.takeWhile letC).length = a at tl_
  have dd : w.dropWhile letC = (cs s).drop (k + a) := by rw [dw_drop, ha, ← hw, List.drop_drop]
  have s0 : g0 (ST8 s (k : Int) F l t o) = .ret (.nx (ST8 s (k : Int) F (.v (.int (k : Int))) t o)) := z_setO (o_v (q_var rfl))
  have s1 : g1 (ST8 s (k : Int) F (.v (.int (k : Int))) t o) = .ret (.nx (ST8 s (k : Int) F (.v (.int ((k + a : Nat) : Int))) t o)) := by
    have q := in_loop hs (k := (k : Int)) (F := F) (t := t) (o := o) w k 1000000 hw (by rw [lw, cs_len]; omega)
    rw [ha] at q
    exact q
  have c2' : (DL.tNot (DL.tB (cCh .Lt .Lt (cC (.int 0)) (c2 subO (cVar 3) (cVar 1)) (cC (.int 9))))) (ST8 s (k : Int) F (.v (.int ((k + a : Nat) : Int))) t o) = .ret (!(decide ((0 : Int) < ((k + a : Nat) : Int) - (k : Int)) && decide (((k + a : Nat) : Int) - (k : Int) < 9))) := q_tNot (q_tB (q_ch q_C (q_2 (q_var rfl) (q_var rfl) rfl) q_C rfl rfl))
  have ca : ((k + a : Nat) : Int) - (k : Int) = (a : Int) := by omega
  rw [ca] at c2'
  unfold oneT
  rw [ha]
  by_cases c : 0 < a ∧ a < 9
  · rw [if_pos c]
    rw [decide_eq_true (show (0 : Int) < (a : Int) by omega), decide_eq_true (show (a : Int) < 9 by omega)] at c2'
    have s2 : g2 (ST8 s (k : Int) F (.v (.int ((k + a : Nat) : Int))) t o) = .ret (.nx (ST8 s (k : Int) F (.v (.int ((k + a : Nat) : Int))) t o)) := if_f c2' rfl
    have nm : cutS s (some (k : Int)) (some ((k + a : Nat) : Int)) = strOf8 (w.takeWhile letC) := cs_inj (by
      rw [cs_cut, cs_of, hw]
      have e : w.takeWhile letC ++ w.dropWhile letC = w := List.takeWhile_append_dropWhile
      conv => lhs; rw [← e]
      rw [← ha]
      exact List.take_left)
    generalize hx : strOf8 (w.takeWhile letC) = x at nm ⊢
    have s3 : g3 (ST8 s (k : Int) F (.v (.int ((k + a : Nat) : Int))) t o) = .ret (.nx [.v (eS s), .v (.int ((k + a : Nat) : Int)), .o (.lst (F.map (e2 eS eFo))), .v (.int ((k + a : Nat) : Int)), .v (eS x), .v (.tup [eFo .nil, .int ((k + a : Nat) : Int)])]) :=
      z_par3 (o_v (q_sl (q_vw rfl) (q_var rfl) (q_var rfl) (by
        show (if s.length ≤ lim then some (D.str (cutS s (some (k : Int)) (some ((k + a : Nat) : Int)))) else none) = _
        rw [if_pos (lim_le (by omega)), nm]))) (o_v (q_tup (q_aC (q_tup q_aN) (q_aC (q_var rfl) q_aN)))) (o_v (q_var rfl))
    have c4 := sl_eq (s := s) hs (Δ := [.v (eS s), .v (.int ((k + a : Nat) : Int)), .o (.lst (F.map (e2 eS eFo))), .v (.int ((k + a : Nat) : Int)), .v (eS x), .v (.tup [eFo .nil, .int ((k + a : Nat) : Int)])]) (w := cVw 0) (a := cVar 1) (b := c2 addO (cVar 1) (cC (.int 1))) (j := k + a) (c := 40) (neg := false) (q_vw rfl) (q_var rfl) (q_2 (q_var rfl) q_C rfl)
    rw [if_neg (by decide), ← dd] at c4
    by_cases h4 : (w.dropWhile letC).head? = some 40
    · rw [if_pos h4]
      rw [decide_eq_true h4] at c4
      have ht := head_tail h4
      have tk : (cs s).drop (k + a + 1) = (w.dropWhile letC).tail := by rw [dd, List.tail_drop]
      have kl : k + a + 1 ≤ (cs s).length := by
        refine Classical.byContradiction fun z => ?_
        rw [dd, List.drop_of_length_le (by omega)] at h4
        cases h4
      have ct : cnt (w.dropWhile letC).tail + 1 ≤ cnt w := by
        have := cnt_drop w a
        rw [show w.drop a = w.dropWhile letC by rw [dw_drop, ha]] at this
        rw [ht, cnt_40] at this
        exact this
      have r := hR _ (k + a + 1) tk kl (by omega)
      have s51 : ∀ d, R [eS s, .int ((k + a + 1 : Nat) : Int)] = .ret d → (tSet 5 (oV (cCall R (aC (cVar 0) (aC (c2 addO (cVar 1) (cC (.int 1))) aN))))) [.v (eS s), .v (.int ((k + a : Nat) : Int)), .o (.lst (F.map (e2 eS eFo))), .v (.int ((k + a : Nat) : Int)), .v (eS x), .v (.tup [eFo .nil, .int ((k + a : Nat) : Int)])] = .ret (.nx [.v (eS s), .v (.int ((k + a : Nat) : Int)), .o (.lst (F.map (e2 eS eFo))), .v (.int ((k + a : Nat) : Int)), .v (eS x), .v d]) := fun d hd => z_setO (o_v (q_call (q_aC (q_var rfl) (q_aC (q_2 (q_var rfl) q_C rfl) q_aN)) hd))
      cases hg : gr n (w.dropWhile letC).tail with
      | none =>
        rw [hg] at r
        dsimp only [Option.bind]
        refine z_seq s0 (z_seq s1 (z_seq s2 (z_seq s3 (sq_rt ?_))))
        exact if_t c4 (z_seq (s51 _ r) (sq_rt (if_t (q_tOr (b := true) (c := true) (q_tB rfl) (fun z => by cases z)) (z_ret q_C))))
      | some y =>
        rw [hg] at r
        obtain ⟨sd1, sd2, sd3⟩ := gr_sound n _ y.1 y.2 hg
        have ly : y.2.length ≤ (w.dropWhile letC).tail.length := by rw [sd3, List.length_append]; omega
        have lt : (w.dropWhile letC).tail.length = (cs s).length - (k + a + 1) := by rw [← tk, List.length_drop]
        have dy : (cs s).drop ((cs s).length - y.2.length) = y.2 := by
          have e : y.2 = (cs s).drop (k + a + 1 + (FT y.1).length) := by rw [← List.drop_drop, tk, sd3, List.drop_left]
          have le := congrArg List.length e
          rw [List.length_drop] at le
          have l3 := congrArg List.length sd3
          rw [List.length_append] at l3
          have : (cs s).length - y.2.length = k + a + 1 + (FT y.1).length := by omega
          rw [this]; exact e.symm
        generalize hj : (cs s).length - y.2.length = j at dy
        have r : R [eS s, .int ((k + a + 1 : Nat) : Int)] = .ret (.tup [eFo y.1, .int (j : Int)]) := by
          rw [r]
          show Pg.ret (D.tup [eFo y.1, .int (((cs s).length - y.2.length : Nat) : Int)]) = _
          rw [hj]
        have c5 := sl_eq (s := s) hs (Δ := [.v (eS s), .v (.int ((k + a : Nat) : Int)), .o (.lst (F.map (e2 eS eFo))), .v (.int ((k + a : Nat) : Int)), .v (eS x), .v (.tup [eFo y.1, .int (j : Int)])]) (w := cVw 0) (a := c2 ixO (cVw 5) (cC (.int 1))) (b := c2 addO (c2 ixO (cVw 5) (cC (.int 1))) (cC (.int 1))) (j := j) (c := 41) (neg := true) (q_vw rfl) (q_2 (q_vw rfl) q_C rfl) (q_2 (q_2 (q_vw rfl) q_C rfl) q_C rfl)
        rw [if_pos rfl, dy] at c5
        have n5 : (DL.tB (c1 (nonO false) (cVar 5))) [.v (eS s), .v (.int ((k + a : Nat) : Int)), .o (.lst (F.map (e2 eS eFo))), .v (.int ((k + a : Nat) : Int)), .v (eS x), .v (.tup [eFo y.1, .int (j : Int)])] = .ret false := q_tB rfl
        by_cases h5 : y.2.head? = some 41
        · rw [decide_eq_true h5] at c5
          have e1 : (some y).bind (fun q => if q.2.head? = some 41 then some (x, q.1, q.2.tail) else none) = some (x, y.1, y.2.tail) := if_pos h5
          rw [e1]
          have y1 : 1 ≤ y.2.length := by rw [head_tail h5, List.length_cons]; omega
          have jt : (cs s).length - y.2.tail.length = j + 1 := by rw [List.length_tail]; omega
          have dt : (cs s).drop (j + 1) = y.2.tail := by rw [← List.tail_drop, dy]
          have tlr := tail_is (s := s) (F := F) hs hF (k1 := ((k + a : Nat) : Int)) (k3 := ((k + a : Nat) : Int)) (x := x) (p := y.1) (j := j + 1)
          rw [dt] at tlr
          refine ⟨.v (.int ((k + a : Nat) : Int)), .v (eS x), .v (.tup [eFo y.1, .int ((j + 1 : Nat) : Int)]), ?_, ?_, ?_, ?_, ?_⟩
          · show y.2.tail.length < w.length
            rw [List.length_tail]; omega
          · show cnt y.2.tail ≤ cnt w
            have e : y.2.tail = w.drop (a + 1 + (FT y.1).length + 1) := by
              rw [← dt, ← hw, List.drop_drop]
              have l3 := congrArg List.length sd3
              rw [List.length_append] at l3
              congr 1
              omega
            rw [e]; exact cnt_drop _ _
          · show (cs s).drop ((cs s).length - y.2.tail.length) = y.2.tail
            rw [jt]; exact dt
          · show y.2.tail.length ≤ (cs s).length
            rw [List.length_tail]; omega
          · show _ = if y.2.tail.head? = some 32 then _ else _
            dsimp only
            rw [jt, ← tlr]
            refine z_seq s0 (z_seq s1 (z_seq s2 (z_seq s3 (z_seq (Δ1 := [.v (eS s), .v (.int ((k + a : Nat) : Int)), .o (.lst (F.map (e2 eS eFo))), .v (.int ((k + a : Nat) : Int)), .v (eS x), .v (.tup [eFo y.1, .int ((j + 1 : Nat) : Int)])]) ?_ rfl))))
            refine if_t c4 (z_seq (s51 _ r) (z_seq (if_f (q_tOr n5 fun _ => c5) rfl) ?_))
            exact z_setO (o_v (q_tup (q_aC (q_2 (q_vw rfl) q_C rfl) (q_aC (q_2 (q_2 (q_vw rfl) q_C rfl) q_C rfl) q_aN))))
        · rw [decide_eq_false h5] at c5
          have e1 : (some y).bind (fun q => if q.2.head? = some 41 then some (x, q.1, q.2.tail) else none) = none := if_neg h5
          rw [e1]
          refine z_seq s0 (z_seq s1 (z_seq s2 (z_seq s3 (sq_rt ?_))))
          exact if_t c4 (z_seq (s51 _ r) (sq_rt (if_t (q_tOr n5 fun _ => c5) (z_ret q_C))))
    · rw [if_neg h4]
      rw [decide_eq_false h4] at c4
      have tlr := tail_is (s := s) (F := F) hs hF (k1 := ((k + a : Nat) : Int)) (k3 := ((k + a : Nat) : Int)) (x := x) (p := .nil) (j := k + a)
      have ld : (w.dropWhile letC).length = (cs s).length - (k + a) := by rw [dd, List.length_drop]
      have jt : (cs s).length - (w.dropWhile letC).length = k + a := by omega
      rw [← dd] at tlr
      refine ⟨.v (.int ((k + a : Nat) : Int)), .v (eS x), .v (.tup [eFo .nil, .int ((k + a : Nat) : Int)]), ?_, ?_, ?_, ?_, ?_⟩
      · show (w.dropWhile letC).length < w.length
        omega
      · show cnt (w.dropWhile letC) ≤ cnt w
        rw [dw_drop]; exact cnt_drop _ _
      · show (cs s).drop ((cs s).length - (w.dropWhile letC).length) = w.dropWhile letC
        rw [jt]; exact dd.symm
      · show (w.dropWhile letC).length ≤ (cs s).length
        omega
      · show _ = if (w.dropWhile letC).head? = some 32 then _ else _
        dsimp only
        rw [jt, ← tlr]
        refine z_seq s0 (z_seq s1 (z_seq s2 (z_seq s3 (z_seq (Δ1 := [.v (eS s), .v (.int ((k + a : Nat) : Int)), .o (.lst (F.map (e2 eS eFo))), .v (.int ((k + a : Nat) : Int)), .v (eS x), .v (.tup [eFo .nil, .int ((k + a : Nat) : Int)])]) (if_f c4 rfl) rfl))))
  · rw [if_neg c]
    have : (decide ((0 : Int) < (a : Int)) && decide ((a : Int) < 9)) = false := by
      cases q : (decide ((0 : Int) < (a : Int)) && decide ((a : Int) < 9)) with
      | false => rfl
      | true =>
        obtain ⟨q1, q2⟩ := (Bool.and_eq_true ..).mp q
        have q1 := of_decide_eq_true q1
        have q2 := of_decide_eq_true q2
        exact absurd ⟨by omega, by omega⟩ c
    rw [this] at c2'
    exact z_seq s0 (z_seq s1 (sq_rt (if_t c2' (z_ret q_C))))
end Q03
end
section
set_option Elab.async false
set_option linter.all false
set_option maxRecDepth 1000000
set_option maxHeartbeats 2000000
/-! k03: the law's own reader is the grammar's -/
namespace Q03
open PySem DL L2 Pk Pg0
theorem loop_run {s : Str} (hs : s.length ≤ 1000) {n : Nat} {R : List D → Pg D} (hR : ∀ (w : List Nat) (k : Nat), (cs s).drop k = w → k ≤ (cs s).length → cnt w < n → R [eS s, .int (k : Int)] = .ret (encG s (gr n w))) : ∀ (m : Nat) (w : List Nat) (k : Nat) (F : List (Str × Fo)) (fu : Nat) (l t o : Sl), w.length < m → (cs s).drop k = w → k ≤ (cs s).length → cnt w ≤ n → F.length + m ≤ 2000 → m ≤ fu →
    whP (DL.tT (cC (.bl true))) (gB R) fu (ST8 s (k : Int) F l t o) = .ret (.rt (match loopT (gr n) m w with
      | none => .non
      | some q => .tup [.tup (F.map (e2 eS eFo) ++ encF q.1), .int (((cs s).length - q.2.length : Nat) : Int)]))
  | 0, w, k, F, fu, l, t, o, h, _, _, _, _, _ => absurd h (Nat.not_lt_zero _)
  | m + 1, w, k, F, fu, l, t, o, h, hw, hk, hc, hF, hfu => by
    obtain ⟨fu, rfl⟩ : ∃ x, fu = x + 1 := ⟨fu - 1, by omega⟩
    have b := body_is hs hR (F := F) (by omega) (l := l) (t := t) (o := o) hw hk hc
    unfold loopT
    cases q : oneT (gr n) w with
    | none =>
      rw [q] at b
      exact wh_rt rfl b
    | some y =>
      rw [q] at b
      obtain ⟨l', t', o', b1, b2, b3, b4, b5⟩ := b
      show _ = Pg.ret (Out.rt (match (if y.2.2.head? = some 32 then (loopT (gr n) m y.2.2.tail).map (fun z => (Fo.cons y.1 y.2.1 z.1, z.2)) else some (Fo.cons y.1 y.2.1 .nil, y.2.2)) with
        | none => .non
        | some q => .tup [.tup (F.map (e2 eS eFo) ++ encF q.1), .int (((cs s).length - q.2.length : Nat) : Int)]))
      by_cases c : y.2.2.head? = some 32
      · rw [if_pos c] at b5 ⊢
        have ht := head_tail c
        have l1 : y.2.2.length = y.2.2.tail.length + 1 := by
          have := congrArg List.length ht
          rw [List.length_cons] at this
          exact this
        have dt : (cs s).drop ((cs s).length - y.2.2.length + 1) = y.2.2.tail := by rw [← List.tail_drop, b3]
        have ih := loop_run hs hR m y.2.2.tail ((cs s).length - y.2.2.length + 1) (F ++ [(y.1, y.2.1)]) fu l' t' o' (by omega) dt (by omega) (by
          have := cnt_drop y.2.2 1
          rw [List.drop_one] at this
          omega) (by rw [List.length_append, List.length_singleton]; omega) (by omega)
        refine (wh_go rfl b5 ih).trans ?_
        cases loopT (gr n) m y.2.2.tail with
        | none => rfl
        | some z =>
          show Pg.ret (Out.rt (D.tup [.tup ((F ++ [(y.1, y.2.1)]).map (e2 eS eFo) ++ encF z.1), _])) = Pg.ret (Out.rt (D.tup [.tup (F.map (e2 eS eFo) ++ encF (.cons y.1 y.2.1 z.1)), _]))
          rw [List.map_append, List.append_assoc]
          rfl
      · rw [if_neg c] at b5 ⊢
        refine (wh_rt rfl b5).trans ?_
        show Pg.ret (Out.rt (D.tup [.tup ((F ++ [(y.1, y.2.1)]).map (e2 eS eFo)), _])) = Pg.ret (Out.rt (D.tup [.tup (F.map (e2 eS eFo) ++ encF (.cons y.1 y.2.1 .nil)), _]))
        rw [List.map_append]
        rfl
theorem grown_is {s : Str} (hs : s.length ≤ 1000) : ∀ (n : Nat) (w : List Nat) (k : Nat), (cs s).drop k = w → k ≤ (cs s).length → cnt w < n → F__law_grown n [eS s, .int (k : Int)] = .ret (encG s (gr n w))
  | 0, _, _, _, _, h => absurd h (Nat.not_lt_zero _)
  | n + 1, w, k, hw, hk, hc => by
    have lw : w.length = (cs s).length - k := by rw [← hw, List.length_drop]
    have ls := cs_len s
    have r := loop_run hs (R := F__law_grown n) (grown_is hs n) (w.length + 1) w k [] 1000000 .e .e .e (by omega) hw hk (by omega) (by show 0 + _ ≤ _; omega) (by omega)
    have e : F__law_grown (n + 1) [eS s, .int (k : Int)] = (B__law_grown (F__law_grown n) [.v (eS s), .v (.int (k : Int)), .e, .e, .e, .e]).bind outP := runF_at _ rfl rfl
    rw [e, gB_is]
    have st : (DL.tSeq (tSet 2 (oL (aL aN))) (tWh (fun _ => 1000000) (DL.tT (cC (.bl true))) (gB (F__law_grown n)))) [.v (eS s), .v (.int (k : Int)), .e, .e, .e, .e] = whP (DL.tT (cC (.bl true))) (gB (F__law_grown n)) 1000000 (ST8 s (k : Int) [] .e .e .e) := rfl
    rw [st, r]
    show Pg.ret _ = Pg.ret (encG s (loopT (gr n) (w.length + 1) w))
    cases loopT (gr n) (w.length + 1) w with
    | none => rfl
    | some q => rfl
theorem dash {s : Str} : s = "-" ↔ cs s = [45] := ⟨fun e => by rw [e]; decide +kernel, fun e => cs_inj (by rw [e]; decide +kernel)⟩
noncomputable def readD (s : Str) : D := match readT 62 (cs s) with
  | none => .non
  | some f => eFo f
theorem i_read (s : Str) (h : s.length ≤ 1000 ∧ cnt (cs s) < 62) : F__law_read [eS s] = .ret (readD s) := by
  obtain ⟨hs, hc⟩ := h
  have e : F__law_read [eS s] = (B__law_read [.v (eS s), .e]).bind outP := runF_at _ rfl rfl
  rw [e]
  have g := grown_is hs 62 (cs s) 0 rfl (Nat.zero_le _) hc
  have t1 : (DL.tB (c2 (eqO false) (cVar 0) (cC (.str "-")))) [.v (eS s), .e] = .ret (decide (s = "-")) := q_tB (q_2 (q_var rfl) q_C o_eqS)
  have len : ∀ d, (c1 lenO' (cVw 0)) [.v (eS s), .v d] = .ret (.int (s.length : Int)) := fun d => q_1 (q_vw rfl) (by
    show (if s.length ≤ lim then some (D.int s.length) else none) = _
    rw [if_pos (lim_le (by omega))])
  have fin : ∀ (f : Fo) (j : Nat), (DL.tRet (cIf (DL.tAnd (DL.tB (c1 (nonO true) (cVar 1))) (DL.tB (c2 (eqO false) (c2 ixO (cVw 1) (cC (.int 1))) (c1 lenO' (cVw 0))))) (c2 ixO (cVw 1) (cC (.int 0))) (cC .non))) [.v (eS s), .v (.tup [eFo f, .int (j : Int)])] = .ret (.rt (if decide ((j : Int) = (s.length : Int)) = true then eFo f else .non)) := fun f j => by
    have c : (DL.tAnd (DL.tB (c1 (nonO true) (cVar 1))) (DL.tB (c2 (eqO false) (c2 ixO (cVw 1) (cC (.int 1))) (c1 lenO' (cVw 0))))) [.v (eS s), .v (.tup [eFo f, .int (j : Int)])] = .ret (true && decide ((j : Int) = (s.length : Int))) := q_tAnd (q_tB rfl) fun _ => q_tB (q_2 (q_2 (q_vw rfl) q_C rfl) (len _) o_eqI)
    rw [Bool.true_and] at c
    exact z_ret (q_cIf (f := id) c (fun _ => q_2 (q_vw rfl) q_C rfl) fun _ => q_C)
  unfold B__law_read
  by_cases c : s = "-"
  · rw [decide_eq_true c] at t1
    have st : (tSet 1 (oV (cIf (DL.tB (c2 (eqO false) (cVar 0) (cC (.str "-")))) (cTup (aC (cTup aN) (aC (cC (.int 1)) aN))) (cCall (F__law_grown 62) (aC (cVar 0) (aC (cC (.int 0)) aN)))))) [.v (eS s), .e] = .ret (.nx [.v (eS s), .v (.tup [eFo .nil, .int ((1 : Nat) : Int)])]) := z_setO (o_v (by
      show ((DL.tB _) _).bind _ = _
      rw [t1]; rfl))
    rw [z_seq st (fin .nil 1)]
    unfold readD readT
    rw [if_pos (dash.mp c), c]
    rfl
  · rw [decide_eq_false c] at t1
    have nd : ¬ cs s = [45] := fun z => c (dash.mpr z)
    have st : (tSet 1 (oV (cIf (DL.tB (c2 (eqO false) (cVar 0) (cC (.str "-")))) (cTup (aC (cTup aN) (aC (cC (.int 1)) aN))) (cCall (F__law_grown 62) (aC (cVar 0) (aC (cC (.int 0)) aN)))))) [.v (eS s), .e] = .ret (.nx [.v (eS s), .v (encG s (gr 62 (cs s)))]) := z_setO (o_v (by
      have cl : (cCall (F__law_grown 62) (aC (cVar 0) (aC (cC (.int 0)) aN))) [.v (eS s), .e] = .ret (encG s (gr 62 (cs s))) := q_call (q_aC (q_var rfl) (q_aC q_C q_aN)) g
      show ((DL.tB _) _).bind _ = _
      rw [t1]
      exact cl))
    unfold readD readT
    rw [if_neg nd]
    cases q : gr 62 (cs s) with
    | none =>
      rw [q] at st
      rw [z_seq st rfl]
      rfl
    | some y =>
      rw [q] at st
      have st : _ = Pg.ret (Out.nx [.v (eS s), .v (.tup [eFo y.1, .int (((cs s).length - y.2.length : Nat) : Int)])]) := st
      rw [z_seq st (fin y.1 _)]
      obtain ⟨_, _, sd⟩ := gr_sound 62 _ y.1 y.2 q
      have l3 := congrArg List.length sd
      rw [List.length_append] at l3
      have ls := cs_len s
      show Pg.ret (if decide (((((cs s).length - y.2.length : Nat)) : Int) = (s.length : Int)) = true then eFo y.1 else .non) = Pg.ret (match (if y.2 = [] then some y.1 else none) with | none => .non | some f => eFo f)
      by_cases z : y.2 = []
      · rw [if_pos z, z, if_pos (decide_eq_true (by show (((cs s).length - 0 : Nat) : Int) = _; omega))]
      · have : 0 < y.2.length := List.length_pos_iff.mpr z
        rw [if_neg z, if_neg (by rw [decide_eq_false (by omega)]; decide)]
end Q03
end
section
set_option Elab.async false
set_option linter.all false
set_option maxRecDepth 1000000
set_option maxHeartbeats 2000000
/-! k03: Forest.of answers just the texts of trees -/
namespace Q03
open PySem DL L2 Pk Pg0
theorem fo_self (f : Fo) : foOf (nodes 1 f) = f := by
  have e : eFo (foOf (nodes 1 f)) = eFo f := by
    have := fo_nodes (nodes_okr f)
    have t := trees_nodes (foOf (nodes 1 f))
    rw [this] at t
    show D.tup (encF (foOf (nodes 1 f))) = D.tup (encF f)
    rw [← t, trees_nodes f]
  have inj : ∀ f g : Fo, encF f = encF g → f = g := by
    intro f
    induction f with
    | nil => intro g h; cases g with | nil => rfl | cons _ _ _ => cases h
    | cons n s r ihs ihr =>
      intro g h
      cases g with
      | nil => cases h
      | cons n' s' r' =>
        have h : D.tup [.str n, .tup (encF s)] :: encF r = D.tup [.str n', .tup (encF s')] :: encF r' := h
        injection h with h1 h2
        injection h1 with h1
        injection h1 with h3 h4
        injection h4 with h4 h5
        injection h3 with h3
        injection h4 with h4
        rw [h3, ihs s' h4, ihr r' h2]
  have e : D.tup (encF (foOf (nodes 1 f))) = D.tup (encF f) := e
  injection e with e
  exact inj _ _ e
/-! ### names -/
theorem chr_one {z y : Str} (h : y ∈ chrS z) : y.length = 1 := by
  obtain ⟨c, _, rfl⟩ := List.mem_map.mp h
  rfl
theorem name_vn (x : Str) : f_is_name x = true ↔ vn x := by
  have al : (((chrS x).map fun (y1 : Str) => (sgn y1 ("abcdefghijklmnopqrstuvwxyz" : Str))).all id) = true ↔ ∀ c ∈ cs x, letC c = true := by
    rw [List.all_map, List.all_eq_true]
    constructor
    · intro h c hc
      exact h (one c) (List.mem_map.mpr ⟨c, hc, rfl⟩)
    · intro h y hy
      obtain ⟨c, hc, rfl⟩ := List.mem_map.mp hy
      exact h c hc
  have l := cs_len x
  unfold f_is_name
  by_cases c : 0 < (cs x).length ∧ (cs x).length < 9
  · rw [if_neg (by
      rw [decide_eq_true (show (0 : Int) < (x.length : Int) by omega), decide_eq_true (show (x.length : Int) ≤ 8 by omega)]
      decide), al]
    exact ⟨fun h => ⟨c.1, c.2, h⟩, fun h => h.2.2⟩
  · rw [if_pos]
    · exact ⟨(fun h => by cases h), fun h => absurd ⟨h.1, h.2.1⟩ c⟩
    · cases q : ((decide ((0 : Int) < (x.length : Int))) && (decide ((x.length : Int) ≤ (8 : Int)))) with
      | false => rfl
      | true =>
        obtain ⟨q1, q2⟩ := (Bool.and_eq_true ..).mp q
        have q1 := of_decide_eq_true q1
        have q2 := of_decide_eq_true q2
        exact absurd ⟨by omega, by omega⟩ c
/-! ### bounds of what is read -/
theorem st_bound {z : RZ} {c : Nat} {B : Int} {L m k : Nat} (h1 : ∀ q ∈ z.1, q.1 ≤ B ∧ q.2.length ≤ L) (h2 : z.2.2 + k ≤ B) (h3 : z.2.1.length + (m + 1) ≤ L) (hk : (if c = 40 then 1 else 0) + j = k) : (∀ q ∈ (stR z c).1, q.1 ≤ B ∧ q.2.length ≤ L) ∧ (stR z c).2.2 + j ≤ B ∧ (stR z c).2.1.length + m ≤ L ∧ (stR z c).1.length ≤ z.1.length + 1 := by
  obtain ⟨F, n, d⟩ := z
  have dc : dl c ≤ (if c = 40 then 1 else 0) := by
    by_cases e : c = 40
    · rw [e, dl_40]; decide
    · unfold dl
      rw [decide_eq_false (show one c ≠ ("(" : Str) from one_eq (d := 40) e), if_neg e]
      cases decide (one c = (")" : Str)) <;> decide
  have h2 : d + k ≤ B := h2
  have h3 : n.length + (m + 1) ≤ L := h3
  cases hl : letC c with
  | true =>
    rw [st_let hl]
    refine ⟨h1, ?_, ?_, Nat.le_succ _⟩
    · show d + j ≤ B
      by_cases e : c = 40
      · rw [if_pos e] at hk; omega
      · rw [if_neg e] at hk; omega
    · show (n ++ one c).length + m ≤ L
      rw [Str.length_append]
      show n.length + 1 + m ≤ L
      omega
  | false =>
    have up : d + dl c + j ≤ B := by
      by_cases e : c = 40
      · rw [if_pos e] at hk dc; omega
      · rw [if_neg e] at hk dc; omega
    by_cases hn : n = ""
    · subst hn
      rw [st_skip hl]
      exact ⟨h1, up, by show (("" : Str).length + m) ≤ L; rw [show ("" : Str).length = 0 from rfl]; omega, Nat.le_succ _⟩
    · rw [st_push hl hn]
      refine ⟨fun q hq => ?_, up, by show (("" : Str).length + m) ≤ L; rw [show ("" : Str).length = 0 from rfl]; omega, by show (F ++ [(d, n)]).length ≤ F.length + 1; rw [List.length_append, List.length_singleton]; omega⟩
      rcases List.mem_append.mp hq with hq | hq
      · exact h1 q hq
      · rw [List.mem_singleton.mp hq]
        exact ⟨by show d ≤ B; omega, by show n.length ≤ L; omega⟩
theorem cnt_cons (c : Nat) (w : List Nat) : cnt (c :: w) = (if c = 40 then 1 else 0) + cnt w := by
  unfold cnt
  by_cases e : c = 40
  · rw [List.countP_cons_of_pos (by simp [e]), if_pos e]; omega
  · rw [List.countP_cons_of_neg (by simp [e]), if_neg e]; omega
theorem run_bound {B : Int} {L : Nat} : ∀ (w : List Nat) (z : RZ), (∀ q ∈ z.1, q.1 ≤ B ∧ q.2.length ≤ L) → z.2.2 + cnt w ≤ B → z.2.1.length + w.length ≤ L → (∀ q ∈ (w.foldl stR z).1, q.1 ≤ B ∧ q.2.length ≤ L) ∧ (w.foldl stR z).1.length ≤ z.1.length + w.length
  | [], z, h1, _, _ => ⟨h1, Nat.le_refl _⟩
  | c :: w, z, h1, h2, h3 => by
    obtain ⟨a1, a2, a3, a4⟩ := st_bound (c := c) (m := w.length) (k := cnt (c :: w)) (j := cnt w) h1 h2 (by rw [List.length_cons] at h3; omega) (cnt_cons c w).symm
    obtain ⟨b1, b2⟩ := run_bound w (stR z c) a1 a2 a3
    rw [List.foldl_cons, List.length_cons]
    exact ⟨b1, by omega⟩
/-- a text that is short, with few signs ( -/
structure Sx (s : Str) : Prop where
  len : s.length ≤ 200
  few : cnt (cs s) ≤ 50
theorem rows_bound {s : Str} (h : Sx s) : (∀ q ∈ rowsR s, q.1 ≤ 52 ∧ q.2.length ≤ 300) ∧ (rowsR s).length ≤ 201 := by
  have l := cs_len s
  have hl := h.len
  have hf := h.few
  have c2 : cnt (cs s ++ [32]) = cnt (cs s) := by
    unfold cnt
    rw [List.countP_append]
    simp
  obtain ⟨a, b⟩ := run_bound (B := 52) (L := 300) (cs s ++ [32]) (([] : List (Int × Str)), ("" : Str), (1 : Int)) (fun q hq => by cases hq) (by rw [c2]; show (1 : Int) + _ ≤ 52; omega) (by rw [List.length_append]; show 0 + _ ≤ 300; rw [List.length_singleton]; omega)
  rw [List.length_append, List.length_singleton] at b
  exact ⟨a, by
    have b : (rowsR s).length ≤ 0 + ((cs s).length + 1) := b
    omega⟩
/-! ### good texts -/
noncomputable def allR (rows : List (Int × Str)) : Bool := (rows.map fun (y2 : (Int × Str)) => ((decide ((0 : Int) < y2.1)) && (f_is_name y2.2))).all id
theorem allR_is {rows : List (Int × Str)} : allR rows = true ↔ ∀ q ∈ rows, 0 < q.1 ∧ vn q.2 := by
  unfold allR
  rw [List.all_map, List.all_eq_true]
  constructor
  · intro h q hq
    have := h q hq
    obtain ⟨a, b⟩ := (Bool.and_eq_true ..).mp this
    exact ⟨of_decide_eq_true a, (name_vn _).mp b⟩
  · intro h q hq
    obtain ⟨a, b⟩ := h q hq
    show (decide ((0 : Int) < q.1) && f_is_name q.2) = true
    rw [decide_eq_true a, (name_vn _).mpr b]; rfl
theorem text_eq {rows : List (Int × Str)} (h : Okr 0 rows) : f_text_of rows = flatF (foOf rows) := by
  have e := fo_nodes h
  cases hf : foOf rows with
  | nil =>
    rw [hf] at e
    have : rows = [] := e.symm
    subst this
    rfl
  | cons x p r =>
    rw [hf] at e
    have e : rows = (1, x) :: (nodes 2 p ++ nodes 1 r) := e.symm
    obtain ⟨t1, t2⟩ := (text_fold (x := x) (p := p) (r := r))
    subst e
    have ix0 : ixD (((1 : Int), x) :: (nodes 2 p ++ nodes 1 r)) (0 : Int) = (1, x) := by rw [show (0 : Int) = ((0 : Nat) : Int) from rfl]; exact ixD_nat rfl
    unfold f_text_of
    rw [if_neg (by rw [decide_eq_true_iff, List.length_cons]; omega), ix0]
    show ((nodes 2 p ++ nodes 1 r).foldl f_text_of_1 (x, (1 : Int))).1 ++ _ = _
    rw [show flatF (.cons x p r) = Txt.join (" " : Str) (flatL (.cons x p r)) from if_pos rfl, ← t1]; rfl
theorem cs_flat : ∀ f : Fo, f ≠ .nil → cs (flatF f) = FT f
  | .nil, h => absurd rfl h
  | .cons x p r, _ => by
    rw [show flatF (.cons x p r) = Txt.join (" " : Str) (flatL (.cons x p r)) from if_pos rfl]
    show cs (Txt.join (" " : Str) ((x ++ (if (!isN p) = true then ((("(" : Str) ++ Txt.join (" " : Str) (flatL p)) ++ (")" : Str)) else ("" : Str))) :: flatL r)) = _
    rw [cs_join, cs_piece]
    rfl
theorem vf_nodes : ∀ (f : Fo) (d : Int), (∀ q ∈ nodes d f, vn q.2) → vf f
  | .nil, _, _ => trivial
  | .cons x p r, d, h => ⟨h (d, x) (List.mem_cons_self ..), vf_nodes p (d + 1) fun q hq => h q (List.mem_cons_of_mem _ (List.mem_append_left _ hq)), vf_nodes r d fun q hq => h q (List.mem_cons_of_mem _ (List.mem_append_right _ hq))⟩
theorem nodes_vf : ∀ (f : Fo) (d : Int), vf f → ∀ q ∈ nodes d f, vn q.2
  | .nil, _, _, q, h => by cases h
  | .cons x p r, d, hv, q, h => by
    rcases List.mem_cons.mp (show q ∈ (d, x) :: (nodes (d + 1) p ++ nodes d r) from h) with rfl | h
    · exact hv.1
    · rcases List.mem_append.mp h with h | h
      · exact nodes_vf p (d + 1) hv.2.1 q h
      · exact nodes_vf r d hv.2.2 q h
theorem okr_pos : ∀ (rows : List (Int × Str)) (d : Int), Okr d rows → ∀ q ∈ rows, 0 < q.1
  | [], _, _, q, h => by cases h
  | x :: rows, d, ho, q, h => by
    rcases List.mem_cons.mp h with rfl | h
    · exact ho.1
    · exact okr_pos rows x.1 ho.2.2 q h
noncomputable def goodR (s : Str) : Bool := allR (rowsR s) && decide (f_text_of (rowsR s) = s)
theorem good_tells {s : Str} (h : goodR s = true) : Tells (cs s) (foOf (rowsR s)) ∧ Okr 0 (rowsR s) := by
  obtain ⟨a, b⟩ := (Bool.and_eq_true ..).mp h
  have a := allR_is.mp a
  have b := of_decide_eq_true b
  have ok : Okr 0 (rowsR s) := own_okr (fun q hq => (a q hq).2) (fun q hq => (a q hq).1) (by rw [b])
  refine ⟨?_, ok⟩
  have te := text_eq ok
  rw [b] at te
  by_cases c : foOf (rowsR s) = .nil
  · rw [c] at te ⊢
    exact .inl ⟨by rw [te]; show cs ("-" : Str) = [45]; decide +kernel, rfl⟩
  · refine .inr ⟨c, vf_nodes _ 1 ?_, ?_⟩
    · rw [fo_nodes ok]
      exact fun q hq => (a q hq).2
    · rw [← cs_flat _ c, ← te]
theorem tells_good {s : Str} {f : Fo} (h : Tells (cs s) f) : goodR s = true ∧ rowsR s = nodes 1 f := by
  have r := rows_tells h
  refine ⟨?_, r⟩
  unfold goodR
  rw [r, text_eq (nodes_okr f), fo_self]
  have al : allR (nodes 1 f) = true := allR_is.mpr fun q hq => ⟨okr_pos _ 0 (nodes_okr f) q hq, by
    rcases h with ⟨_, rfl⟩ | ⟨_, b, _⟩
    · cases hq
    · exact nodes_vf f 1 b q hq⟩
  rw [al, Bool.true_and]
  refine decide_eq_true (cs_inj ?_)
  rcases h with ⟨e, rfl⟩ | ⟨a, _, e⟩
  · rw [e]; show cs ("-" : Str) = [45]; decide +kernel
  · rw [cs_flat f a, e]
end Q03
end
section
set_option Elab.async false
set_option linter.all false
set_option maxRecDepth 1000000
/-! what a def that may raise answers, from what it answers where it does not -/
namespace DL
open PySem L2
theorem sf_ret {t : ST} {Δ : List Sl} {o : Out} (h : t Δ = .ret o) : sfT t Δ = .ret o := by
  unfold sfT
  rw [h]; rfl
theorem sfB_ret {t : SB} {Δ : List Sl} {o : Bool} (h : t Δ = .ret o) : sfB t Δ = .ret o := by
  unfold sfB
  rw [h]; rfl
/-- where the one answers, the other answers the same -/
def Sim (a b : ST) : Prop := ∀ Δ o, a Δ = .ret o → b Δ = .ret o
theorem sim_sf {t : ST} : Sim t (sfT t) := fun _ _ h => sf_ret h
theorem sim_seq {a a' b b' : ST} (h : Sim a a') (g : Sim b b') : Sim (DL.tSeq a b) (DL.tSeq a' b') := fun Δ o e => by
  have e : (a Δ).bind _ = .ret o := e
  show (a' Δ).bind _ = .ret o
  cases q : a Δ with
  | ret x =>
    rw [q] at e
    rw [h Δ x q]
    cases x with
    | nx Δ1 => exact g Δ1 o e
    | rt d => exact e
    | bk d => exact e
    | ct d => exact e
  | fail => rw [q] at e; cases e
  | exn d => rw [q] at e; cases e
  | draw l f => rw [q] at e; cases e
theorem sim_if {t : SB} {r : ST} : Sim (DL.tIf t (fun _ => .fail) DL.tNil) (DL.tIf (sfB t) r DL.tNil) := fun Δ o e => by
  have e : (t Δ).bind _ = .ret o := e
  show ((sfB t) Δ).bind _ = .ret o
  cases q : t Δ with
  | ret x =>
    rw [q] at e
    rw [sfB_ret q]
    cases x with
    | true => cases e
    | false => exact e
  | fail => rw [q] at e; cases e
  | exn d => rw [q] at e; cases e
  | draw l f => rw [q] at e; cases e
end DL
end
section
set_option Elab.async false
set_option linter.all false
set_option maxRecDepth 1000000
set_option maxHeartbeats 2000000
/-! k03: what is heard of a text -/
namespace Q03
open PySem DL L2 Pk Pg0
theorem ok_name3 {p : Str} (h : p.length ≤ 5000) : vc_is_name p := ⟨fun _ => lim_le (by omega), fun _ => ⟨lim_le (by
  have : (chrS p).length = p.length := by unfold chrS; rw [List.length_map]; exact cs_len p
  omega), fun y hy => chr_one hy⟩⟩
theorem ok_text3 {rows : List (Int × Str)} (h : ∀ q ∈ rows, 0 < q.1 ∧ q.1 ≤ 52 ∧ q.2.length ≤ 8) (hl : rows.length ≤ 201) : vc_text_of rows := by
  cases rows with
  | nil => exact fun q => absurd (show decide ((0 : Int) = 0) = false from q) (by decide)
  | cons q ns =>
    rw [List.length_cons] at hl
    have x8 := (h q (List.mem_cons_self ..)).2.2
    obtain ⟨o1, o2, o3, o4⟩ := ok_text ns (q.2, 1) (fun y hy => by
      obtain ⟨a, b, c⟩ := h y (List.mem_cons_of_mem _ hy)
      exact ⟨by omega, by omega, by omega⟩) (by show (0 : Int) ≤ 1; decide) (by show (1 : Int) ≤ 100; decide) (by show q.2.length + _ ≤ _; omega)
    have sl := smul_len ((ns.foldl f_text_of_1 (q.2, (1 : Int))).2 - 1)
    have o2 : (ns.foldl f_text_of_1 (q.2, (1 : Int))).1.length ≤ q.2.length + 300 * ns.length := o2
    have at0 : atI (q :: ns) (0 : Int) = some q := L2.atI_nat (j := 0) rfl
    have ix0 : ixD (q :: ns) (0 : Int) = q := by unfold ixD; rw [at0]; rfl
    intro _
    refine ⟨by rw [at0]; rfl, ?_⟩
    rw [ix0]
    show foldOk f_text_of_1 vc_text_of_1 ns (q.2, 1) ∧ smulOk (")" : Str) ((ns.foldl f_text_of_1 (q.2, (1 : Int))).2 - 1) ∧ (ns.foldl f_text_of_1 (q.2, (1 : Int))).1.length + (smul (")" : Str) ((ns.foldl f_text_of_1 (q.2, (1 : Int))).2 - 1)).length ≤ lim
    exact ⟨o1, ⟨by decide +kernel, by omega, by omega⟩, lim_le (by omega)⟩
section
variable {s : Str}
theorem vc_parts (h : Sx s) : okRin s ∧ ((rowsR s).length ≤ lim ∧ ∀ y2 ∈ rowsR s, (decide ((0 : Int) < y2.1)) = true → vc_is_name y2.2) ∧ ((!allR (rowsR s)) = false → vc_text_of (rowsR s)) := by
  obtain ⟨a, b⟩ := rows_bound h
  have hl := h.len
  refine ⟨show s.length ≤ 50000 by omega, ⟨lim_le (by omega), fun y hy _ => ok_name3 (by have := (a y hy).2; omega)⟩, fun q => ?_⟩
  have al : allR (rowsR s) = true := by
    cases z : allR (rowsR s) with
    | true => rfl
    | false => rw [z] at q; cases q
  have al := allR_is.mp al
  refine ok_text3 (fun y hy => ⟨(al y hy).1, (a y hy).1, ?_⟩) b
  have := (al y hy).2.2.1
  have := cs_len y.2
  omega
theorem vc_good (h : Sx s) (g : goodR s = true) : vc_Forest_of s ∧ vc_Forest_text (f_Forest_of s) ∧ f_Forest_of s = mkFor (foOf (rowsR s)) ∧ f_Forest_text (f_Forest_of s) = s ∧ vc_Forest_trees (f_Forest_of s) ∧ f_Forest_trees (f_Forest_of s) = foOf (rowsR s) := by
  obtain ⟨p1, p2, p3⟩ := vc_parts h
  obtain ⟨t, ok⟩ := good_tells g
  obtain ⟨_, b⟩ := rows_bound h
  obtain ⟨g1, g2⟩ := (Bool.and_eq_true ..).mp g
  have g2 := of_decide_eq_true g2
  have rr : (f_Forest_of s).rows = rowsR s := by
    show nodes 1 (foOf (rowsR s)) = _
    exact fo_nodes ok
  have vt : vc_text_of (rowsR s) := p3 (by rw [g1]; rfl)
  refine ⟨⟨p1, ⟨⟨p2, p3⟩, ?_, ⟨ok, by omega⟩, ?_⟩⟩, ?_, rfl, ?_, ?_, ?_⟩
  · show (!allR (rowsR s) || !decide (f_text_of (rowsR s) = s)) = false
    rw [g1, decide_eq_true g2]; rfl
  · show (foOf (rowsR s)).size ≤ 60000
    rw [fo_size ok]; omega
  · show vc_text_of (f_Forest_of s).rows
    rw [rr]; exact vt
  · show f_text_of (f_Forest_of s).rows = s
    rw [rr]; exact g2
  · show okRows (f_Forest_of s).rows
    rw [rr]; exact ⟨ok, by omega⟩
  · show foOf (f_Forest_of s).rows = _
    rw [rr]
theorem x_good (h : vc_Forest_of s) : FX_Forest_of [eS s] = .ret (eFor (f_Forest_of s)) := by
  have t := t_Forest_of s h
  have sim : Sim B_Forest_of BX_Forest_of := sim_seq sim_sf (sim_seq sim_if sim_sf)
  have e : F_Forest_of [eS s] = (B_Forest_of [.v (eS s), .e, .e, .e]).bind outP := runF_at _ rfl rfl
  have e2 : FX_Forest_of [eS s] = (BX_Forest_of [.v (eS s), .e, .e, .e]).bind outP := runF_at _ rfl rfl
  rw [e] at t
  rw [e2]
  cases q : B_Forest_of [.v (eS s), .e, .e, .e] with
  | ret o => rw [q] at t; rw [sim _ o q]; exact t
  | fail => rw [q] at t; cases t
  | exn d => rw [q] at t; cases t
  | draw l f => rw [q] at t; cases t
theorem x_bad (h : Sx s) (g : goodR s = false) : FX_Forest_of [eS s] = .exn (.exc 11 [] []) := by
  obtain ⟨p1, p2, p3⟩ := vc_parts h
  have er : FX_Forest_of [eS s] = (BX_Forest_of [.v (eS s), .e, .e, .e]).bind outP := runF_at _ rfl rfl
  rw [er]
  have s1 : (tSet 1 (oV (cCall F_rows_in (aC (cVar 0) aN)))) [.v (eS s), .e, .e, .e] = .ret (.nx [.v (eS s), .v (eT (e2 eI eS) (rowsR s)), .e, .e]) := z_setO (o_v (q_call (q_aC (q_var rfl) q_aN) (i_rowsin s p1)))
  have c1 := q_tOr (Δ := [.v (eS s), .v (eT (e2 eI eS) (rowsR s)), .e, .e]) (b := !allR (rowsR s)) (c := (!decide ((f_text_of (rowsR s)) = s))) (q_tNot (q_tT (q_1 (q_cLL (q_lc0 (tg := .tp [(.nm 2), (.nm 3)]) (vs := [2, 3]) (A := aIt (cVar 1)) (s := eAnd (c2 (coO2 .Gt) (cVar 2) (cC (.int 0))) (cCall F_is_name (aC (cVar 3) aN))) (f := (e2 eI eS)) (xs := (rowsR s)) (v := fun (y2 : (Int × Str)) => ((decide ((0 : Int) < y2.1)) && (f_is_name y2.2))) (g := eB) (q_itT (q_var rfl)) p2.1 (fun y2 hy2 => ⟨_, rfl, (q_eAnd (b := (decide ((0 : Int) < y2.1))) (c := (f_is_name y2.2)) (q_2 (q_var rfl) q_C o_gtI2) (fun ee0 => (q_call (q_aC (q_var rfl) q_aN) (t_is_name y2.2 ((p2.2 y2 hy2) ee0)))))⟩))) o_all) o_truB)) (fun ee0 => (q_tB (s := c2 (eqO true) (cCall F_text_of (aC (cVar 1) aN)) (cVar 0)) (q_2 (q_call (q_aC (q_var rfl) q_aN) (t_text_of (rowsR s) (p3 ee0))) (q_var rfl) o_neS)))
  have cc : (!allR (rowsR s) || !decide (f_text_of (rowsR s) = s)) = true := by
    have g : (allR (rowsR s) && decide (f_text_of (rowsR s) = s)) = false := g
    rw [← Bool.not_and, g]; rfl
  rw [cc] at c1
  have z1 : ∀ {a b : ST} {Δ Δ1 : List Sl}, a Δ = .ret (.nx Δ1) → DL.tSeq (sfT a) b Δ = b Δ1 := fun {a b Δ Δ1} q => by
    show ((sfT a) Δ).bind _ = _
    rw [sf_ret q]; rfl
  unfold BX_Forest_of
  rw [z1 s1]
  show ((((sfB _) [.v (eS s), .v (eT (e2 eI eS) (rowsR s)), .e, .e]).bind _).bind _).bind outP = _
  rw [sfB_ret c1]
  rfl
noncomputable def heardD (s : Str) : D := if goodR s = true then eFo (foOf (rowsR s)) else .non
theorem i_heard0 (s : Str) (h : Sx s) : F__law_heard [eS s] = .ret (heardD s) := by
  have e : F__law_heard [eS s] = (B__law_heard [.v (eS s), .e, .e, .e]).bind outP := runF_at _ rfl rfl
  rw [e]
  have ca1 : ∀ d : D, FX_Forest_of [eS s] = .ret d → (tSet 2 (oV (cCallK FX_Forest_of (fun a b => a ++ b) 1 aN (sfA (aC (cVar 0) aN))))) [.v (eS s), .v .non, .v .non, .e] = .ret (.nx [.v (eS s), .v .non, .v d, .e]) := fun d q => by
    show ((FX_Forest_of [eS s]).bind _).bind _ = _
    rw [q]; rfl
  have ca2 : ∀ d : D, FX_Forest_of [eS s] = .exn d → (tSet 2 (oV (cCallK FX_Forest_of (fun a b => a ++ b) 1 aN (sfA (aC (cVar 0) aN))))) [.v (eS s), .v .non, .v .non, .e] = .exn d := fun d q => by
    show ((FX_Forest_of [eS s]).bind _).bind _ = _
    rw [q]; rfl
  have s0 : (DL.tAsg (.tp [(.nm 1), (.nm 2)]) (xE (cTup (aC (cC .non) (aC (cC .non) aN))))) [.v (eS s), .e, .e, .e] = .ret (.nx [.v (eS s), .v .non, .v .non, .e]) := rfl
  unfold B__law_heard
  cases c : goodR s with
  | true =>
    obtain ⟨v1, v2, v3, v4, v5, v6⟩ := vc_good h c
    have t : tTryT [10, 7] 1 3 (tSet 2 (oV (cCallK FX_Forest_of (fun a b => a ++ b) 1 aN (sfA (aC (cVar 0) aN))))) [.v (eS s), .v .non, .v .non, .e] = .ret (.nx [.v (eS s), .v .non, .v (eFor (f_Forest_of s)), .e]) := by
      unfold tTryT
      rw [if_pos (by show 3 < 4; decide), ca1 _ (x_good v1)]; rfl
    have r : (cIf (DL.tB (c2 (eqO false) (cProp 3 F_Forest_text (cVar 2)) (cVar 0))) (cProp 3 F_Forest_trees (cVar 2)) (cC (.str "unlike"))) [.v (eS s), .v .non, .v (eFor (f_Forest_of s)), .e] = .ret (eFo (foOf (rowsR s))) := by
      have tt := t_Forest_text (f_Forest_of s) v2
      rw [v4] at tt
      have tr := t_Forest_trees (f_Forest_of s) v5
      rw [v6] at tr
      have b : (DL.tB (c2 (eqO false) (cProp 3 F_Forest_text (cVar 2)) (cVar 0))) [.v (eS s), .v .non, .v (eFor (f_Forest_of s)), .e] = .ret (decide (s = s)) := q_tB (q_2 (q_prop (q_var rfl) rfl tt) (q_var rfl) o_eqS)
      rw [decide_eq_true rfl] at b
      show ((DL.tB _) _).bind _ = _
      rw [b]
      exact q_prop (q_var rfl) rfl tr
    have n : (DL.tB (c1 (nonO false) (cVar 1))) [.v (eS s), .v .non, .v (eFor (f_Forest_of s)), .e] = .ret true := rfl
    rw [z_seq s0 (z_seq t (sq_rt (if_t n (z_ret r))))]
    unfold heardD
    rw [c, if_pos rfl]
    rfl
  | false =>
    have t : tTryT [10, 7] 1 3 (tSet 2 (oV (cCallK FX_Forest_of (fun a b => a ++ b) 1 aN (sfA (aC (cVar 0) aN))))) [.v (eS s), .v .non, .v .non, .e] = .ret (.nx [.v (eS s), .v (.exc 11 [] []), .v .non, .e]) := by
      unfold tTryT
      rw [if_pos (by show 3 < 4; decide), ca2 _ (x_bad h c)]; rfl
    rw [z_seq s0 (z_seq t rfl)]
    unfold heardD
    rw [c, if_neg (by decide)]
    rfl
/-- the height of trees by their text's signs -/
theorem ft_hgt : ∀ f : Fo, f ≠ .nil → hgt f ≤ cnt (FT f) + 1
  | .nil, h => absurd rfl h
  | .cons x p r, _ => by
    have ap : ∀ a b : List Nat, cnt (a ++ b) = cnt a + cnt b := fun a b => List.countP_append
    have e : cnt (FT (.cons x p r)) = cnt (cs x) + cnt (tail p) + cnt (jn r) := by
      show cnt (cs x ++ tail p ++ jn r) = _
      rw [ap, ap]
    have a : hgt p + 1 ≤ cnt (tail p) + 1 := by
      by_cases c : p = .nil
      · subst c; exact Nat.succ_le_succ (Nat.zero_le _)
      · have := ft_hgt p c
        rw [tail_ft, if_neg c, cnt_40, ap]
        omega
    have b : hgt r ≤ cnt (jn r) + 1 := by
      by_cases c : r = .nil
      · subst c; exact Nat.zero_le _
      · have := ft_hgt r c
        rw [jn_ft, if_neg c, cnt_cons]
        omega
    show max (hgt p + 1) (hgt r) ≤ _
    omega
/-- what is heard is what the law reads -/
theorem heard_read (h : Sx s) : heardD s = readD s := by
  have hf := h.few
  unfold heardD readD
  cases q : readT 62 (cs s) with
  | some f =>
    obtain ⟨g1, g2⟩ := tells_good (read_tells q)
    rw [if_pos g1, g2, fo_self]
  | none =>
    cases g : goodR s with
    | false => rfl
    | true =>
      obtain ⟨t, _⟩ := good_tells g
      have hh : hgt (foOf (rowsR s)) ≤ 62 := by
        rcases t with ⟨_, e⟩ | ⟨a, _, e⟩
        · rw [e]; exact Nat.zero_le _
        · have := ft_hgt _ a
          rw [← e] at this
          omega
      rw [tells_read t hh] at q
      cases q
end
end Q03
end
section
set_option Elab.async false
set_option linter.all false
set_option maxRecDepth 100000
set_option maxHeartbeats 1000000
namespace Q03
open PySem DL L2
open Pk Pg0
def okRd (s : Str) : Prop := s.length ≤ 1000 ∧ cnt (cs s) < 62
noncomputable def f__law_right_3 (v0 : Unit) (v4 : Str) (z : Unit) (x : Int) : Pg (Unit ⊕ Bool) := (asr ((v4.length ≤ lim)) ((drawI v0 (v4.length : Int)).bind fun b3 => ((f__law_of v0 [(" " : Str), ("(" : Str), (")" : Str), ("a" : Str), ("z" : Str), ("-" : Str), ("A" : Str), ("_" : Str), ("0" : Str)]).bind fun b4 => (asr (((((v4.length ≤ lim)) ∧ ((cutS v4 none (some b3)).length + b4.length ≤ lim)) ∧ ((v4.length ≤ lim)) ∧ (((cutS v4 none (some b3)) ++ b4).length + (cutS v4 (some b3) none).length ≤ lim)) ∧ (((v4.length ≤ lim)) ∧ ((v4.length ≤ lim)) ∧ ((cutS v4 none (some b3)).length + (cutS v4 (some (b3 + (1 : Int))) none).length ≤ lim)) ∧ ((((v4.length ≤ lim)) ∧ ((cutS v4 none (some b3)).length + b4.length ≤ lim)) ∧ ((v4.length ≤ lim)) ∧ (((cutS v4 none (some b3)) ++ b4).length + (cutS v4 (some (b3 + (1 : Int))) none).length ≤ lim)) ∧ ((v4.length + b4.length ≤ lim))) (asr ((([(((cutS v4 none (some b3)) ++ b4) ++ (cutS v4 (some b3) none)), ((cutS v4 none (some b3)) ++ (cutS v4 (some (b3 + (1 : Int))) none)), (((cutS v4 none (some b3)) ++ b4) ++ (cutS v4 (some (b3 + (1 : Int))) none)), (v4 ++ b4)].length ≤ lim) ∧ (∀ y5 ∈ [(((cutS v4 none (some b3)) ++ b4) ++ (cutS v4 (some b3) none)), ((cutS v4 none (some b3)) ++ (cutS v4 (some (b3 + (1 : Int))) none)), (((cutS v4 none (some b3)) ++ b4) ++ (cutS v4 (some (b3 + (1 : Int))) none)), (v4 ++ b4)], (Sx y5))) ∧ (([(((cutS v4 none (some b3)) ++ b4) ++ (cutS v4 (some b3) none)), ((cutS v4 none (some b3)) ++ (cutS v4 (some (b3 + (1 : Int))) none)), (((cutS v4 none (some b3)) ++ b4) ++ (cutS v4 (some (b3 + (1 : Int))) none)), (v4 ++ b4)].length ≤ lim) ∧ (∀ y6 ∈ [(((cutS v4 none (some b3)) ++ b4) ++ (cutS v4 (some b3) none)), ((cutS v4 none (some b3)) ++ (cutS v4 (some (b3 + (1 : Int))) none)), (((cutS v4 none (some b3)) ++ b4) ++ (cutS v4 (some (b3 + (1 : Int))) none)), (v4 ++ b4)], (okRd y6))) ∧ (sameOk40 ((eL eD) ([(((cutS v4 none (some b3)) ++ b4) ++ (cutS v4 (some b3) none)), ((cutS v4 none (some b3)) ++ (cutS v4 (some (b3 + (1 : Int))) none)), (((cutS v4 none (some b3)) ++ b4) ++ (cutS v4 (some (b3 + (1 : Int))) none)), (v4 ++ b4)].map fun (y5 : Str) => (heardD y5))) ((eL eD) ([(((cutS v4 none (some b3)) ++ b4) ++ (cutS v4 (some b3) none)), ((cutS v4 none (some b3)) ++ (cutS v4 (some (b3 + (1 : Int))) none)), (((cutS v4 none (some b3)) ++ b4) ++ (cutS v4 (some (b3 + (1 : Int))) none)), (v4 ++ b4)].map fun (y6 : Str) => (readD y6))))) (if (!(sameF ((eL eD) ([(((cutS v4 none (some b3)) ++ b4) ++ (cutS v4 (some b3) none)), ((cutS v4 none (some b3)) ++ (cutS v4 (some (b3 + (1 : Int))) none)), (((cutS v4 none (some b3)) ++ b4) ++ (cutS v4 (some (b3 + (1 : Int))) none)), (v4 ++ b4)].map fun (y5 : Str) => (heardD y5))) ((eL eD) ([(((cutS v4 none (some b3)) ++ b4) ++ (cutS v4 (some b3) none)), ((cutS v4 none (some b3)) ++ (cutS v4 (some (b3 + (1 : Int))) none)), (((cutS v4 none (some b3)) ++ b4) ++ (cutS v4 (some (b3 + (1 : Int))) none)), (v4 ++ b4)].map fun (y6 : Str) => (readD y6))))) = true then (.ret (.inr false)) else (.ret (.inl ()))))))))
theorem b__law_right_3 (v0 : Unit) (v4 : Str) (k1 : Sl) (k2 : Sl) (k3 : Sl) : ∀ z x Δ, (fun (z : Unit) Δ => ∃ w5 w6 w7 w8 : Sl, Δ = [.v (eU v0), k1, k2, k3, .v (eS v4), w5, w6, w7, w8, .e]) z Δ → RefJ (fun (z : Unit) Δ => ∃ w5 w6 w7 w8 : Sl, Δ = [.v (eU v0), k1, k2, k3, .v (eS v4), w5, w6, w7, w8, .e]) eB (f__law_right_3 v0 v4 z x) ((ofO (tgS (.nm 5) (eI x) Δ)).bind (DL.tSeq (tPar 6 7 (oV (cCall takeP (aC (cVar 0) (aC (c1 lenO' (cVw 4)) aN)))) (oV (cCall F__law_of (aC (cVar 0) (aC (cL (aL (aC (cC (.str " ")) (aC (cC (.str "(")) (aC (cC (.str ")")) (aC (cC (.str "a")) (aC (cC (.str "z")) (aC (cC (.str "-")) (aC (cC (.str "A")) (aC (cC (.str "_")) (aC (cC (.str "0")) aN))))))))))) aN))))) (DL.tSeq (tSet 8 (oV (cL (aL (aC (c2 addO (c2 addO (c2 sl01 (cVw 4) (cVar 6)) (cVar 7)) (c2 sl10 (cVw 4) (cVar 6))) (aC (c2 addO (c2 sl01 (cVw 4) (cVar 6)) (c2 sl10 (cVw 4) (c2 addO (cVar 6) (cC (.int 1))))) (aC (c2 addO (c2 addO (c2 sl01 (cVw 4) (cVar 6)) (cVar 7)) (c2 sl10 (cVw 4) (c2 addO (cVar 6) (cC (.int 1))))) (aC (c2 addO (cVar 4) (cVar 7)) aN)))))))) (DL.tIf (tNot (tT (cCall (F__law_same 40) (aC (cL (aLc (.nm 9) [9] (aIt (cVar 8)) DL.tYes (cCall F__law_heard (aC (cVar 9) aN)))) (aC (cL (aLc (.nm 9) [9] (aIt (cVar 8)) DL.tYes (cCall F__law_read (aC (cVar 9) aN)))) aN))))) (DL.tRet (cC (.bl false))) DL.tNil)))) := by
  rintro z x Δ ⟨w5, w6, w7, w8, rfl⟩ ρ R G hn hc hr
  refine m_tgB (Δ1 := [.v (eU v0), k1, k2, k3, .v (eS v4), .v (eI x), w6, w7, w8, .e]) rfl ?_
  exact (show Ref _ (((DL.tSeq (tPar 6 7 (oV (cCall takeP (aC (cVar 0) (aC (c1 lenO' (cVw 4)) aN)))) (oV (cCall F__law_of (aC (cVar 0) (aC (cL (aL (aC (cC (.str " ")) (aC (cC (.str "(")) (aC (cC (.str ")")) (aC (cC (.str "a")) (aC (cC (.str "z")) (aC (cC (.str "-")) (aC (cC (.str "A")) (aC (cC (.str "_")) (aC (cC (.str "0")) aN))))))))))) aN))))) (DL.tSeq (tSet 8 (oV (cL (aL (aC (c2 addO (c2 addO (c2 sl01 (cVw 4) (cVar 6)) (cVar 7)) (c2 sl10 (cVw 4) (cVar 6))) (aC (c2 addO (c2 sl01 (cVw 4) (cVar 6)) (c2 sl10 (cVw 4) (c2 addO (cVar 6) (cC (.int 1))))) (aC (c2 addO (c2 addO (c2 sl01 (cVw 4) (cVar 6)) (cVar 7)) (c2 sl10 (cVw 4) (c2 addO (cVar 6) (cC (.int 1))))) (aC (c2 addO (cVar 4) (cVar 7)) aN)))))))) (DL.tIf (tNot (tT (cCall (F__law_same 40) (aC (cL (aLc (.nm 9) [9] (aIt (cVar 8)) DL.tYes (cCall F__law_heard (aC (cVar 9) aN)))) (aC (cL (aLc (.nm 9) [9] (aIt (cVar 8)) DL.tYes (cCall F__law_read (aC (cVar 9) aN)))) aN))))) (DL.tRet (cC (.bl false))) DL.tNil))) [.v (eU v0), k1, k2, k3, .v (eS v4), .v (eI x), w6, w7, w8, .e]).bind G) from (m_seqG (m_par (m_callA (m_aC (m_pure (q_var rfl) (m_aC (m_asr (fun h10 => (m_pure (q_1 (q_vw rfl) (o_lenS h10)) (m_aN (m_app (f := eI) (r_take v0 (v4.length : Int)) (fun b3 => (m_callA (m_aC (m_pure (q_var rfl) (m_aC (m_pure (q_cLL (f := eS) (xs := [(" " : Str), ("(" : Str), (")" : Str), ("a" : Str), ("z" : Str), ("-" : Str), ("A" : Str), ("_" : Str), ("0" : Str)]) (q_aL (q_aC q_C (q_aC q_C (q_aC q_C (q_aC q_C (q_aC q_C (q_aC q_C (q_aC q_C (q_aC q_C (q_aC q_C q_aN))))))))))) (m_aN (m_app (f := eS) (t__law_of v0 [(" " : Str), ("(" : Str), (")" : Str), ("a" : Str), ("z" : Str), ("-" : Str), ("A" : Str), ("_" : Str), ("0" : Str)]) (fun b4 => (m_go (m_seqG (m_asr (fun h9 => (m_nxP (z_setO (o_v (d := (eL eS) [(((cutS v4 none (some b3)) ++ b4) ++ (cutS v4 (some b3) none)), ((cutS v4 none (some b3)) ++ (cutS v4 (some (b3 + (1 : Int))) none)), (((cutS v4 none (some b3)) ++ b4) ++ (cutS v4 (some (b3 + (1 : Int))) none)), (v4 ++ b4)]) (q_cLL (f := eS) (xs := [(((cutS v4 none (some b3)) ++ b4) ++ (cutS v4 (some b3) none)), ((cutS v4 none (some b3)) ++ (cutS v4 (some (b3 + (1 : Int))) none)), (((cutS v4 none (some b3)) ++ b4) ++ (cutS v4 (some (b3 + (1 : Int))) none)), (v4 ++ b4)]) (q_aL (q_aC (q_2 (q_2 (q_2 (q_vw rfl) (q_var rfl) (o_slS h9.1.1.1)) (q_var rfl) (o_addS h9.1.1.2)) (q_2 (q_vw rfl) (q_var rfl) (o_slS1 h9.1.2.1)) (o_addS h9.1.2.2)) (q_aC (q_2 (q_2 (q_vw rfl) (q_var rfl) (o_slS h9.2.1.1)) (q_2 (q_vw rfl) (q_2 (q_var rfl) q_C o_addI) (o_slS1 h9.2.1.2.1)) (o_addS h9.2.1.2.2)) (q_aC (q_2 (q_2 (q_2 (q_vw rfl) (q_var rfl) (o_slS h9.2.2.1.1.1)) (q_var rfl) (o_addS h9.2.2.1.1.2)) (q_2 (q_vw rfl) (q_2 (q_var rfl) q_C o_addI) (o_slS1 h9.2.2.1.2.1)) (o_addS h9.2.2.1.2.2)) (q_aC (q_2 (q_var rfl) (q_var rfl) (o_addS h9.2.2.2)) q_aN)))))))) (m_go (m_if (m_asr (fun h8 => (m_pure (q_tNot (q_tT (q_call (q_aC (q_cLL (q_lc0 (f := eS) (xs := [(((cutS v4 none (some b3)) ++ b4) ++ (cutS v4 (some b3) none)), ((cutS v4 none (some b3)) ++ (cutS v4 (some (b3 + (1 : Int))) none)), (((cutS v4 none (some b3)) ++ b4) ++ (cutS v4 (some (b3 + (1 : Int))) none)), (v4 ++ b4)]) (v := fun (y5 : Str) => (heardD y5)) (g := eD) (q_itL (q_var rfl)) h8.1.1 (fun y5 hy5 => ⟨_, rfl, (q_call (q_aC (q_var rfl) q_aN) (i_heard0 y5 (h8.1.2 y5 hy5)))⟩))) (q_aC (q_cLL (q_lc0 (f := eS) (xs := [(((cutS v4 none (some b3)) ++ b4) ++ (cutS v4 (some b3) none)), ((cutS v4 none (some b3)) ++ (cutS v4 (some (b3 + (1 : Int))) none)), (((cutS v4 none (some b3)) ++ b4) ++ (cutS v4 (some (b3 + (1 : Int))) none)), (v4 ++ b4)]) (v := fun (y6 : Str) => (readD y6)) (g := eD) (q_itL (q_var rfl)) h8.2.1.1 (fun y6 hy6 => ⟨_, rfl, (q_call (q_aC (q_var rfl) q_aN) (i_read y6 (h8.2.1.2 y6 hy6)))⟩))) q_aN)) (u_same40 ((eL eD) ([(((cutS v4 none (some b3)) ++ b4) ++ (cutS v4 (some b3) none)), ((cutS v4 none (some b3)) ++ (cutS v4 (some (b3 + (1 : Int))) none)), (((cutS v4 none (some b3)) ++ b4) ++ (cutS v4 (some (b3 + (1 : Int))) none)), (v4 ++ b4)].map fun (y5 : Str) => (heardD y5))) ((eL eD) ([(((cutS v4 none (some b3)) ++ b4) ++ (cutS v4 (some b3) none)), ((cutS v4 none (some b3)) ++ (cutS v4 (some (b3 + (1 : Int))) none)), (((cutS v4 none (some b3)) ++ b4) ++ (cutS v4 (some (b3 + (1 : Int))) none)), (v4 ++ b4)].map fun (y6 : Str) => (readD y6))) h8.2.2)) o_truB)) (m_ite (fun e7 => (m_retG (m_pure q_C (m_end (hr false))))) (fun e7 => (m_nxP z_nil (m_end (hn () _ ⟨(.v (eI x)), (.v (eI b3)), (.v (eS b4)), (.v ((eL eS) [(((cutS v4 none (some b3)) ++ b4) ++ (cutS v4 (some b3) none)), ((cutS v4 none (some b3)) ++ (cutS v4 (some (b3 + (1 : Int))) none)), (((cutS v4 none (some b3)) ++ b4) ++ (cutS v4 (some (b3 + (1 : Int))) none)), (v4 ++ b4)])), rfl⟩))))))))))))))))))))))))))))))))))))
noncomputable def f__law_right_2 (v0 : Unit) (z : Unit) (x : Int) : Pg (Unit ⊕ Bool) := ((f__law_tags v0 (3 : Int)).bind fun b1 => ((f__law_rows v0 b1 (9 : Int)).bind fun b2 => (asr ((okWood b2)) (asr ((okFlat (foOf b2))) (asr ((((Sx (flatF (foOf b2)))) ∧ (((okFo (foOf b2))) ∧ (vc_Forest_text (mkFor (foOf b2))))) ∧ (sameOk40 ((eL eD) [(heardD (flatF (foOf b2))), (eS (f_Forest_text (mkFor (foOf b2))))]) ((eL eD) [(eFo (foOf b2)), (eS (flatF (foOf b2)))]))) (if (!(sameF ((eL eD) [(heardD (flatF (foOf b2))), (eS (f_Forest_text (mkFor (foOf b2))))]) ((eL eD) [(eFo (foOf b2)), (eS (flatF (foOf b2)))]))) = true then (.ret (.inr false)) else (asr ((inR (4 : Int) = true)) ((loopM (f__law_right_3 v0 (flatF (foOf b2))) (rngI 0 (4 : Int).toNat) ()).bind fun r => match r with | .inl z11 => (.ret (.inl ())) | .inr t16 => (.ret (.inr t16))))))))))
theorem b__law_right_2 (v0 : Unit)  : ∀ z x Δ, (fun (z : Unit) Δ => ∃ w1 w2 w3 w4 w5 w6 w7 w8 : Sl, Δ = [.v (eU v0), w1, w2, w3, w4, w5, w6, w7, w8, .e]) z Δ → RefJ (fun (z : Unit) Δ => ∃ w1 w2 w3 w4 w5 w6 w7 w8 : Sl, Δ = [.v (eU v0), w1, w2, w3, w4, w5, w6, w7, w8, .e]) eB (f__law_right_2 v0 z x) ((ofO (tgS (.nm 1) (eI x) Δ)).bind (DL.tSeq (tSet 2 (oV (cCall F__law_rows (aC (cVar 0) (aC (cCall F__law_tags (aC (cVar 0) (aC (cC (.int 3)) aN))) (aC (cC (.int 9)) aN)))))) (DL.tSeq (tSet 3 (oV (cCall (F__law_trees 16) (aC (cVar 2) aN)))) (DL.tSeq (tSet 4 (oV (cCall (F__law_flat 16) (aC (cVar 3) aN)))) (DL.tSeq (DL.tIf (tNot (tT (cCall (F__law_same 40) (aC (cL (aL (aC (cCall F__law_heard (aC (cVar 4) aN)) (aC (cProp 3 F_Forest_text (cMk 3 F_Forest___init__ (aC (cVar 3) aN) [])) aN)))) (aC (cL (aL (aC (cVar 3) (aC (cVar 4) aN)))) aN))))) (DL.tRet (cC (.bl false))) DL.tNil) (DL.tFor (.nm 5) (aRg1 (cC (.int 4))) (DL.tSeq (tPar 6 7 (oV (cCall takeP (aC (cVar 0) (aC (c1 lenO' (cVw 4)) aN)))) (oV (cCall F__law_of (aC (cVar 0) (aC (cL (aL (aC (cC (.str " ")) (aC (cC (.str "(")) (aC (cC (.str ")")) (aC (cC (.str "a")) (aC (cC (.str "z")) (aC (cC (.str "-")) (aC (cC (.str "A")) (aC (cC (.str "_")) (aC (cC (.str "0")) aN))))))))))) aN))))) (DL.tSeq (tSet 8 (oV (cL (aL (aC (c2 addO (c2 addO (c2 sl01 (cVw 4) (cVar 6)) (cVar 7)) (c2 sl10 (cVw 4) (cVar 6))) (aC (c2 addO (c2 sl01 (cVw 4) (cVar 6)) (c2 sl10 (cVw 4) (c2 addO (cVar 6) (cC (.int 1))))) (aC (c2 addO (c2 addO (c2 sl01 (cVw 4) (cVar 6)) (cVar 7)) (c2 sl10 (cVw 4) (c2 addO (cVar 6) (cC (.int 1))))) (aC (c2 addO (cVar 4) (cVar 7)) aN)))))))) (DL.tIf (tNot (tT (cCall (F__law_same 40) (aC (cL (aLc (.nm 9) [9] (aIt (cVar 8)) DL.tYes (cCall F__law_heard (aC (cVar 9) aN)))) (aC (cL (aLc (.nm 9) [9] (aIt (cVar 8)) DL.tYes (cCall F__law_read (aC (cVar 9) aN)))) aN))))) (DL.tRet (cC (.bl false))) DL.tNil))))))))) := by
  rintro z x Δ ⟨w1, w2, w3, w4, w5, w6, w7, w8, rfl⟩ ρ R G hn hc hr
  refine m_tgB (Δ1 := [.v (eU v0), .v (eI x), w2, w3, w4, w5, w6, w7, w8, .e]) rfl ?_
  exact (show Ref _ (((DL.tSeq (tSet 2 (oV (cCall F__law_rows (aC (cVar 0) (aC (cCall F__law_tags (aC (cVar 0) (aC (cC (.int 3)) aN))) (aC (cC (.int 9)) aN)))))) (DL.tSeq (tSet 3 (oV (cCall (F__law_trees 16) (aC (cVar 2) aN)))) (DL.tSeq (tSet 4 (oV (cCall (F__law_flat 16) (aC (cVar 3) aN)))) (DL.tSeq (DL.tIf (tNot (tT (cCall (F__law_same 40) (aC (cL (aL (aC (cCall F__law_heard (aC (cVar 4) aN)) (aC (cProp 3 F_Forest_text (cMk 3 F_Forest___init__ (aC (cVar 3) aN) [])) aN)))) (aC (cL (aL (aC (cVar 3) (aC (cVar 4) aN)))) aN))))) (DL.tRet (cC (.bl false))) DL.tNil) (DL.tFor (.nm 5) (aRg1 (cC (.int 4))) (DL.tSeq (tPar 6 7 (oV (cCall takeP (aC (cVar 0) (aC (c1 lenO' (cVw 4)) aN)))) (oV (cCall F__law_of (aC (cVar 0) (aC (cL (aL (aC (cC (.str " ")) (aC (cC (.str "(")) (aC (cC (.str ")")) (aC (cC (.str "a")) (aC (cC (.str "z")) (aC (cC (.str "-")) (aC (cC (.str "A")) (aC (cC (.str "_")) (aC (cC (.str "0")) aN))))))))))) aN))))) (DL.tSeq (tSet 8 (oV (cL (aL (aC (c2 addO (c2 addO (c2 sl01 (cVw 4) (cVar 6)) (cVar 7)) (c2 sl10 (cVw 4) (cVar 6))) (aC (c2 addO (c2 sl01 (cVw 4) (cVar 6)) (c2 sl10 (cVw 4) (c2 addO (cVar 6) (cC (.int 1))))) (aC (c2 addO (c2 addO (c2 sl01 (cVw 4) (cVar 6)) (cVar 7)) (c2 sl10 (cVw 4) (c2 addO (cVar 6) (cC (.int 1))))) (aC (c2 addO (cVar 4) (cVar 7)) aN)))))))) (DL.tIf (tNot (tT (cCall (F__law_same 40) (aC (cL (aLc (.nm 9) [9] (aIt (cVar 8)) DL.tYes (cCall F__law_heard (aC (cVar 9) aN)))) (aC (cL (aLc (.nm 9) [9] (aIt (cVar 8)) DL.tYes (cCall F__law_read (aC (cVar 9) aN)))) aN))))) (DL.tRet (cC (.bl false))) DL.tNil)))))))) [.v (eU v0), .v (eI x), w2, w3, w4, w5, w6, w7, w8, .e]).bind G) from (m_seqG (m_set (m_callA (m_aC (m_pure (q_var rfl) (m_aC (m_callA (m_aC (m_pure (q_var rfl) (m_aC (m_pure q_C (m_aN (m_app (f := (eL eS)) (t__law_tags v0 (3 : Int)) (fun b1 => (m_aC (m_pure q_C (m_aN (m_app (f := (eT (e2 eI eS))) (t__law_rows v0 b1 (9 : Int)) (fun b2 => (m_go (m_seqG (m_asr (fun h21 => (m_nxP (z_setO (o_v (d := eFo (foOf b2)) (q_call (q_aC (q_var rfl) q_aN) (i_lawtrees b2 h21)))) (m_go (m_seqG (m_asr (fun h20 => (m_nxP (z_setO (o_v (d := eS (flatF (foOf b2))) (q_call (q_aC (q_var rfl) q_aN) (i_lawflat (foOf b2) h20)))) (m_go (m_seqG (m_if (m_asr (fun h19 => (m_pure (q_tNot (q_tT (q_call (q_aC (q_cLL (f := eD) (xs := [(heardD (flatF (foOf b2))), (eS (f_Forest_text (mkFor (foOf b2))))]) (q_aL (q_aC (q_call (q_aC (q_var rfl) q_aN) (i_heard0 (flatF (foOf b2)) h19.1.1)) (q_aC (q_prop (q_mk (q_aC (q_var rfl) q_aN) (i_For (foOf b2) h19.1.2.1) rfl) rfl (t_Forest_text (mkFor (foOf b2)) h19.1.2.2)) q_aN)))) (q_aC (q_cLL (f := eD) (xs := [(eFo (foOf b2)), (eS (flatF (foOf b2)))]) (q_aL (q_aC (q_var rfl) (q_aC (q_var rfl) q_aN)))) q_aN)) (u_same40 ((eL eD) [(heardD (flatF (foOf b2))), (eS (f_Forest_text (mkFor (foOf b2))))]) ((eL eD) [(eFo (foOf b2)), (eS (flatF (foOf b2)))]) h19.2)) o_truB)) (m_ite (fun e18 => (m_retG (m_pure q_C (m_goR (m_end (hr false)))))) (fun e18 => (m_nxP z_nil (m_go (m_for (m_asr (fun h17 => (m_pure (q_rg1 q_C h17) (m_loop (b__law_right_3 v0 (flatF (foOf b2)) (.v (eI x)) (.v ((eT (e2 eI eS)) b2)) (.v (eFo (foOf b2)))) ⟨(w5), (w6), (w7), (w8), rfl⟩ (fun z11 Δ' hI => (by obtain ⟨j12, j13, j14, j15, rfl⟩ := hI; exact (m_end (hn () _ ⟨(.v (eI x)), (.v ((eT (e2 eI eS)) b2)), (.v (eFo (foOf b2))), (.v (eS (flatF (foOf b2)))), (j12), (j13), (j14), (j15), rfl⟩)))) (fun t16 => (m_end (hr t16))))))))))))))))))))))))))))))))))))))))))))))))
noncomputable def f__law_right_4  : Pg Bool := (.ret true)
theorem b__law_right_4  (j0 : Sl) (j1 : Sl) (j2 : Sl) (j3 : Sl) (j4 : Sl) (j5 : Sl) (j6 : Sl) (j7 : Sl) (j8 : Sl) : Ref ((f__law_right_4 ).bind fun a => .ret (.rt (eB a))) ((DL.tRet (cC (.bl true))) [j0, j1, j2, j3, j4, j5, j6, j7, j8, .e]) := m_reify (m_retG (m_pure q_C (m_end Ref.refl)))
noncomputable def f__law_right_1 (s0 : Unit) : Pg Bool := (asr ((inR (10 : Int) = true)) ((loopM (f__law_right_2 s0) (rngI 0 (10 : Int).toNat) ()).bind fun r => match r with | .inl z22 => (f__law_right_4 ) | .inr t31 => (.ret t31)))
theorem b__law_right_1 (s0 : Unit)  : Ref ((f__law_right_1 s0).bind fun a => .ret (.rt (eB a))) ((DL.tSeq (DL.tFor (.nm 1) (aRg1 (cC (.int 10))) (DL.tSeq (tSet 2 (oV (cCall F__law_rows (aC (cVar 0) (aC (cCall F__law_tags (aC (cVar 0) (aC (cC (.int 3)) aN))) (aC (cC (.int 9)) aN)))))) (DL.tSeq (tSet 3 (oV (cCall (F__law_trees 16) (aC (cVar 2) aN)))) (DL.tSeq (tSet 4 (oV (cCall (F__law_flat 16) (aC (cVar 3) aN)))) (DL.tSeq (DL.tIf (tNot (tT (cCall (F__law_same 40) (aC (cL (aL (aC (cCall F__law_heard (aC (cVar 4) aN)) (aC (cProp 3 F_Forest_text (cMk 3 F_Forest___init__ (aC (cVar 3) aN) [])) aN)))) (aC (cL (aL (aC (cVar 3) (aC (cVar 4) aN)))) aN))))) (DL.tRet (cC (.bl false))) DL.tNil) (DL.tFor (.nm 5) (aRg1 (cC (.int 4))) (DL.tSeq (tPar 6 7 (oV (cCall takeP (aC (cVar 0) (aC (c1 lenO' (cVw 4)) aN)))) (oV (cCall F__law_of (aC (cVar 0) (aC (cL (aL (aC (cC (.str " ")) (aC (cC (.str "(")) (aC (cC (.str ")")) (aC (cC (.str "a")) (aC (cC (.str "z")) (aC (cC (.str "-")) (aC (cC (.str "A")) (aC (cC (.str "_")) (aC (cC (.str "0")) aN))))))))))) aN))))) (DL.tSeq (tSet 8 (oV (cL (aL (aC (c2 addO (c2 addO (c2 sl01 (cVw 4) (cVar 6)) (cVar 7)) (c2 sl10 (cVw 4) (cVar 6))) (aC (c2 addO (c2 sl01 (cVw 4) (cVar 6)) (c2 sl10 (cVw 4) (c2 addO (cVar 6) (cC (.int 1))))) (aC (c2 addO (c2 addO (c2 sl01 (cVw 4) (cVar 6)) (cVar 7)) (c2 sl10 (cVw 4) (c2 addO (cVar 6) (cC (.int 1))))) (aC (c2 addO (cVar 4) (cVar 7)) aN)))))))) (DL.tIf (tNot (tT (cCall (F__law_same 40) (aC (cL (aLc (.nm 9) [9] (aIt (cVar 8)) DL.tYes (cCall F__law_heard (aC (cVar 9) aN)))) (aC (cL (aLc (.nm 9) [9] (aIt (cVar 8)) DL.tYes (cCall F__law_read (aC (cVar 9) aN)))) aN))))) (DL.tRet (cC (.bl false))) DL.tNil))))))))) (DL.tRet (cC (.bl true)))) [.v (eU s0), .e, .e, .e, .e, .e, .e, .e, .e, .e]) := m_reify (m_seqG (m_for (m_asr (fun h32 => (m_pure (q_rg1 q_C h32) (m_loop (b__law_right_2 s0 ) ⟨(.e), (.e), (.e), (.e), (.e), (.e), (.e), (.e), rfl⟩ (fun z22 Δ' hI => (by obtain ⟨j23, j24, j25, j26, j27, j28, j29, j30, rfl⟩ := hI; exact (m_go (m_stage (b__law_right_4  (.v (eU s0)) (j23) (j24) (j25) (j26) (j27) (j28) (j29) (j30)))))) (fun t31 => (m_goR (m_end Ref.refl)))))))))
noncomputable def f__law_right (u : Unit) : Pg Bool := (if (!true) = true then (.ret false) else (f__law_right_1 u))
theorem t__law_right (u : Unit) : Ref ((f__law_right u).bind fun a => .ret (eB a)) (F__law_right [eU u]) := by
  refine m_run (S := B__law_right) [.v (eU u), .e, .e, .e, .e, .e, .e, .e, .e, .e] rfl rfl ?_
  exact (show Ref _ ((DL.tSeq (DL.tIf (tNot (tT (cCall F__law_by_hand_right aN))) (DL.tRet (cC (.bl false))) DL.tNil) (DL.tSeq (DL.tFor (.nm 1) (aRg1 (cC (.int 10))) (DL.tSeq (tSet 2 (oV (cCall F__law_rows (aC (cVar 0) (aC (cCall F__law_tags (aC (cVar 0) (aC (cC (.int 3)) aN))) (aC (cC (.int 9)) aN)))))) (DL.tSeq (tSet 3 (oV (cCall (F__law_trees 16) (aC (cVar 2) aN)))) (DL.tSeq (tSet 4 (oV (cCall (F__law_flat 16) (aC (cVar 3) aN)))) (DL.tSeq (DL.tIf (tNot (tT (cCall (F__law_same 40) (aC (cL (aL (aC (cCall F__law_heard (aC (cVar 4) aN)) (aC (cProp 3 F_Forest_text (cMk 3 F_Forest___init__ (aC (cVar 3) aN) [])) aN)))) (aC (cL (aL (aC (cVar 3) (aC (cVar 4) aN)))) aN))))) (DL.tRet (cC (.bl false))) DL.tNil) (DL.tFor (.nm 5) (aRg1 (cC (.int 4))) (DL.tSeq (tPar 6 7 (oV (cCall takeP (aC (cVar 0) (aC (c1 lenO' (cVw 4)) aN)))) (oV (cCall F__law_of (aC (cVar 0) (aC (cL (aL (aC (cC (.str " ")) (aC (cC (.str "(")) (aC (cC (.str ")")) (aC (cC (.str "a")) (aC (cC (.str "z")) (aC (cC (.str "-")) (aC (cC (.str "A")) (aC (cC (.str "_")) (aC (cC (.str "0")) aN))))))))))) aN))))) (DL.tSeq (tSet 8 (oV (cL (aL (aC (c2 addO (c2 addO (c2 sl01 (cVw 4) (cVar 6)) (cVar 7)) (c2 sl10 (cVw 4) (cVar 6))) (aC (c2 addO (c2 sl01 (cVw 4) (cVar 6)) (c2 sl10 (cVw 4) (c2 addO (cVar 6) (cC (.int 1))))) (aC (c2 addO (c2 addO (c2 sl01 (cVw 4) (cVar 6)) (cVar 7)) (c2 sl10 (cVw 4) (c2 addO (cVar 6) (cC (.int 1))))) (aC (c2 addO (cVar 4) (cVar 7)) aN)))))))) (DL.tIf (tNot (tT (cCall (F__law_same 40) (aC (cL (aLc (.nm 9) [9] (aIt (cVar 8)) DL.tYes (cCall F__law_heard (aC (cVar 9) aN)))) (aC (cL (aLc (.nm 9) [9] (aIt (cVar 8)) DL.tYes (cCall F__law_read (aC (cVar 9) aN)))) aN))))) (DL.tRet (cC (.bl false))) DL.tNil))))))))) (DL.tRet (cC (.bl true))))) [.v (eU u), .e, .e, .e, .e, .e, .e, .e, .e, .e]) from m_reify (m_seqG (m_if (m_pure (q_tNot (q_tT (q_call q_aN (hand )) o_truB)) (m_ite (fun e33 => (m_retG (m_pure q_C (m_goR (m_end Ref.refl))))) (fun e33 => (m_nxP z_nil (m_go (m_stage (b__law_right_1 u ))))))))))
end Q03
end
section
set_option Elab.async false
set_option linter.all false
set_option maxRecDepth 1000000
set_option maxHeartbeats 2000000
/-! k03: measures of texts -/
namespace Q03
open PySem DL L2 Pk Pg0
theorem cnt_app (a b : List Nat) : cnt (a ++ b) = cnt a + cnt b := List.countP_append
theorem cnt_let {w : List Nat} (h : ∀ c ∈ w, letC c = true) : cnt w = 0 := by
  unfold cnt
  refine List.countP_eq_zero.mpr fun c hc q => ?_
  have : c = 40 := by simpa using q
  have h2 := h c hc
  rw [this, l40] at h2
  cases h2
/-- of trees with names: few signs (, few signs -/
theorem ft_sizes : ∀ f : Fo, vf f → cnt (FT f) ≤ f.size ∧ (FT f).length ≤ 11 * f.size ∧ f.size ≤ (FT f).length
  | .nil, _ => ⟨Nat.zero_le _, Nat.zero_le _, Nat.zero_le _⟩
  | .cons x p r, hv => by
    obtain ⟨vx, vp, vr⟩ := hv
    obtain ⟨a1, a2, a3⟩ := ft_sizes p vp
    obtain ⟨b1, b2, b3⟩ := ft_sizes r vr
    have x1 := vx.1
    have x2 := vx.2.1
    have tp : cnt (tail p) ≤ 1 + p.size ∧ (tail p).length ≤ 2 + 11 * p.size ∧ p.size ≤ (tail p).length := by
      by_cases c : p = .nil
      · subst c
        exact ⟨Nat.zero_le _, Nat.zero_le _, Nat.zero_le _⟩
      · rw [tail_ft, if_neg c, cnt_40, cnt_app, List.length_cons, List.length_append]
        have : cnt [41] = 0 := rfl
        have l1 : ([41] : List Nat).length = 1 := rfl
        omega
    have jr : cnt (jn r) ≤ r.size ∧ (jn r).length ≤ 1 + 11 * r.size ∧ r.size ≤ (jn r).length := by
      by_cases c : r = .nil
      · subst c
        exact ⟨Nat.zero_le _, Nat.zero_le _, Nat.zero_le _⟩
      · rw [jn_ft, if_neg c, cnt_cons, List.length_cons, if_neg (by decide)]
        omega
    have e1 : cnt (FT (.cons x p r)) = cnt (cs x) + cnt (tail p) + cnt (jn r) := by
      show cnt (cs x ++ tail p ++ jn r) = _
      rw [cnt_app, cnt_app]
    have e2 : (FT (.cons x p r)).length = (cs x).length + (tail p).length + (jn r).length := by
      show (cs x ++ tail p ++ jn r).length = _
      rw [List.length_append, List.length_append]
    have sz : (Fo.cons x p r).size = p.size + r.size + 1 := rfl
    have cx := cnt_let vx.2.2
    rw [e1, e2, sz]
    omega
/-- texts of some length, with so many signs ( -/
def Lx (n m : Nat) (s : Str) : Prop := s.length ≤ n ∧ cnt (cs s) ≤ m
theorem lx_sx {n m : Nat} {s : Str} (h : Lx n m s) (hn : n ≤ 200) (hm : m ≤ 50) : Sx s := ⟨Nat.le_trans h.1 hn, Nat.le_trans h.2 hm⟩
theorem lx_rd {s : Str} (h : Sx s) : okRd s := ⟨by have := h.len; omega, by have := h.few; omega⟩
theorem cs_to (s : Str) (j : Nat) : cs (cutS s none (some (j : Int))) = (cs s).take j := by
  unfold cutS
  show (List.take (HT.sIx s.length s.length (some (j : Int)) - HT.sIx s.length 0 none) (List.drop (HT.sIx s.length 0 none) (cs s))) = _
  have e1 : HT.sIx s.length 0 none = 0 := rfl
  rw [e1, six_nat, List.drop_zero, Nat.sub_zero, ← cs_len]
  by_cases c : j ≤ (cs s).length
  · rw [Nat.min_eq_left c]
  · rw [Nat.min_eq_right (by omega), List.take_of_length_le (Nat.le_refl _), List.take_of_length_le (by omega)]
theorem cs_from (s : Str) (j : Nat) : cs (cutS s (some (j : Int)) none) = (cs s).drop j := by
  unfold cutS
  show (List.take (HT.sIx s.length s.length none - HT.sIx s.length 0 (some (j : Int))) (List.drop (HT.sIx s.length 0 (some (j : Int))) (cs s))) = _
  have e1 : HT.sIx s.length s.length none = s.length := rfl
  rw [e1, six_nat, ← cs_len]
  by_cases c : j ≤ (cs s).length
  · rw [Nat.min_eq_left c]
    exact List.take_of_length_le (by rw [List.length_drop]; omega)
  · rw [Nat.min_eq_right (by omega), List.drop_of_length_le (Nat.le_refl _), List.drop_of_length_le (by omega)]
    exact List.take_nil
/-- the four bent texts -/
theorem bent {s g : Str} {n m j : Nat} (h : Lx n m s) (hg : Lx 1 1 g) : Lx (n + 1) (m + 1) (((cutS s none (some (j : Int))) ++ g) ++ (cutS s (some (j : Int)) none)) ∧ Lx (n + 1) (m + 1) ((cutS s none (some (j : Int))) ++ (cutS s (some ((j : Int) + (1 : Int))) none)) ∧ Lx (n + 1) (m + 1) (((cutS s none (some (j : Int))) ++ g) ++ (cutS s (some ((j : Int) + (1 : Int))) none)) ∧ Lx (n + 1) (m + 1) (s ++ g) := by
  obtain ⟨h1, h2⟩ := h
  obtain ⟨g1, g2⟩ := hg
  have l := cs_len s
  have lg := cs_len g
  have j1 : ((j : Int) + 1) = ((j + 1 : Nat) : Int) := rfl
  have e : (cs s).take j ++ (cs s).drop j = cs s := List.take_append_drop j (cs s)
  have c0 := congrArg cnt e
  rw [cnt_app] at c0
  have l0 := congrArg List.length e
  rw [List.length_append] at l0
  have c1 : cnt ((cs s).drop (j + 1)) ≤ cnt ((cs s).drop j) := by
    rw [← List.drop_drop]; exact cnt_drop _ _
  have l1 : ((cs s).drop (j + 1)).length ≤ ((cs s).drop j).length := by rw [List.length_drop, List.length_drop]; omega
  have key : ∀ {t : Str} {w : List Nat}, cs t = w → w.length ≤ n + 1 → cnt w ≤ m + 1 → Lx (n + 1) (m + 1) t := fun {t w} e1 e2 e3 => ⟨by rw [← cs_len, e1]; exact e2, by rw [e1]; exact e3⟩
  rw [j1]
  refine ⟨key (w := ((cs s).take j ++ cs g) ++ (cs s).drop j) (by rw [cs_app, cs_app, cs_to, cs_from]) ?_ ?_, key (w := (cs s).take j ++ (cs s).drop (j + 1)) (by rw [cs_app, cs_to, cs_from]) ?_ ?_, key (w := ((cs s).take j ++ cs g) ++ (cs s).drop (j + 1)) (by rw [cs_app, cs_app, cs_to, cs_from]) ?_ ?_, key (w := cs s ++ cs g) (by rw [cs_app]) ?_ ?_⟩
  · rw [List.length_append, List.length_append]; omega
  · rw [cnt_app, cnt_app]; omega
  · rw [List.length_append]; omega
  · rw [cnt_app]; omega
  · rw [List.length_append, List.length_append]; omega
  · rw [cnt_app, cnt_app]; omega
  · rw [List.length_append]; omega
  · rw [cnt_app]; omega
/-! ### flat data -/
theorem pl_enc : ∀ (f : Fo) (n : Nat), 2 * hgt f ≤ n → f.size ≤ 60000 → (∀ d ∈ encF f, Pl n d) ∧ (encF f).length ≤ lim
  | .nil, n, _, _ => ⟨fun d hd => (nomatch hd), Nat.zero_le _⟩
  | .cons x p r, n, h, hs => by
    have h1 : hgt p + 1 ≤ hgt (.cons x p r) := Nat.le_max_left _ _
    have h2 : hgt r ≤ hgt (.cons x p r) := Nat.le_max_right _ _
    have sz : (Fo.cons x p r).size = p.size + r.size + 1 := rfl
    obtain ⟨m, rfl⟩ : ∃ m, n = m + 2 := ⟨n - 2, by omega⟩
    obtain ⟨a1, a2⟩ := pl_enc p m (by omega) (by omega)
    obtain ⟨b1, b2⟩ := pl_enc r (m + 2) (by omega) (by omega)
    constructor
    · intro d hd
      rcases List.mem_cons.mp (show d ∈ D.tup [.str x, .tup (encF p)] :: encF r from hd) with rfl | hd
      · unfold Pl
        refine ⟨by show 2 ≤ _; decide, fun d hd => ?_⟩
        simp only [List.mem_cons, List.not_mem_nil, or_false] at hd
        rcases hd with rfl | rfl
        · exact pl_str
        · unfold Pl
          exact ⟨by rw [lim_eq]; exact a2, a1⟩
      · exact b1 d hd
    · have := Pk.enc_len (.cons x p r)
      exact lim_le (by omega)
theorem pl_fo {f : Fo} (h : hgt f ≤ 18) (hs : f.size ≤ 60000) : Pl 38 (eFo f) := by
  obtain ⟨a, b⟩ := pl_enc f 37 (by omega) hs
  show Pl 38 (.tup (encF f))
  unfold Pl
  exact ⟨by rw [lim_eq]; exact b, a⟩
theorem pl_read {s : Str} {n : Nat} (h : Lx n 12 s) (hn : n ≤ 200) : Pl 38 (readD s) := by
  unfold readD
  cases q : readT 62 (cs s) with
  | none => exact pl_non
  | some f =>
    have t := read_tells q
    have l := cs_len s
    have h1 := h.1
    have h2 := h.2
    rcases t with ⟨_, rfl⟩ | ⟨a, b, e⟩
    · exact pl_fo (Nat.zero_le _) (Nat.zero_le _)
    · have x := ft_hgt f a
      have y := (ft_sizes f b).2.2
      rw [← e] at x y
      exact pl_fo (by omega) (by omega)
/-! ### drawn trees -/
theorem nms_vn : ∀ x ∈ nms0, vn x := by
  have : ∀ x ∈ nms0, 0 < (cs x).length ∧ (cs x).length < 9 ∧ ∀ c ∈ cs x, letC c = true := by decide +kernel
  exact this
theorem wood_is {rows : List (Int × Str)} (ok : Okr 0 rows) (hl : rows.length ≤ 9) (hd : ∀ q ∈ rows, q.1 ≤ 9) (hn : ∀ q ∈ rows, q.2 ∈ nms0) : Tx rows ∧ Tells (cs (flatF (foOf rows))) (foOf rows) ∧ Lx 110 9 (flatF (foOf rows)) ∧ hgt (foOf rows) ≤ 18 ∧ (foOf rows).size ≤ 9 := by
  have tx : Tx rows := ⟨ok, by omega, fun q hq => ⟨by have := okr_pos rows 0 ok q hq; omega, by have := hd q hq; omega⟩, hn⟩
  have sz := fo_size ok
  have hg := hgt_le (foOf rows) 1 9 (by decide) (by rw [fo_nodes ok]; exact hd)
  have v : vf (foOf rows) := vf_nodes _ 1 (by rw [fo_nodes ok]; exact fun q hq => nms_vn _ (hn q hq))
  refine ⟨tx, ?_, ?_, by omega, by omega⟩
  · by_cases c : foOf rows = .nil
    · rw [c]
      exact .inl ⟨by show cs ("-" : Str) = [45]; decide +kernel, rfl⟩
    · exact .inr ⟨c, v, cs_flat _ c⟩
  · by_cases c : foOf rows = .nil
    · rw [c]
      exact ⟨by show ("-" : Str).length ≤ 110; decide +kernel, by show cnt (cs ("-" : Str)) ≤ 9; decide +kernel⟩
    · obtain ⟨a1, a2, a3⟩ := ft_sizes _ v
      refine ⟨?_, ?_⟩
      · rw [← cs_len, cs_flat _ c]; omega
      · rw [cs_flat _ c]; omega
end Q03
end
section
set_option Elab.async false
set_option linter.all false
set_option maxRecDepth 1000000
set_option maxHeartbeats 2000000
/-! k03: forests as texts -/
namespace Q03
open PySem DL L2 Pk Pg0
abbrev signs3 : List Str := [(" " : Str), ("(" : Str), (")" : Str), ("a" : Str), ("z" : Str), ("-" : Str), ("A" : Str), ("_" : Str), ("0" : Str)]
theorem signs_ok : ∀ x ∈ signs3, Lx 1 1 x := by
  have : ∀ x ∈ signs3, x.length ≤ 1 ∧ cnt (cs x) ≤ 1 := by decide +kernel
  exact this
theorem len_app (a b : Str) : (a ++ b).length = a.length + b.length := by
  rw [← cs_len, cs_app, List.length_append, cs_len, cs_len]
theorem co_bent {u : Unit} {s : Str} {x : Int} (h : Lx 110 9 s) (h1 : 1 ≤ s.length) : Co true 2 (f__law_right_3 u s () x) fun r => r = .inl () := by
  have hl := h.1
  unfold f__law_right_3
  refine Co.asr (lim_le (by omega)) ?_
  refine Co.le (c := 1 + 1) (Co.bind (co_drawI (by omega) (by omega) fun d d0 d1 => ?_)) (by omega)
  obtain ⟨j, rfl⟩ := Int.eq_ofNat_of_zero_le d0
  refine Co.le (c := 1 + 0) (Co.bind ((co_of (u := u) (T := signs3) (by simp) (by decide)).mono fun g hg => ?_)) (by omega)
  have tg := signs_ok g hg
  have g1 := tg.1
  obtain ⟨b1, b2, b3, b4⟩ := bent (j := j) h tg
  have c1 : (cutS s none (some (j : Int))).length ≤ s.length := cutS_length _ _ _
  have c2 : (cutS s (some (j : Int)) none).length ≤ s.length := cutS_length _ _ _
  have c3 : (cutS s (some ((j : Int) + (1 : Int))) none).length ≤ s.length := cutS_length _ _ _
  have all : ∀ y ∈ [(((cutS s none (some (j : Int))) ++ g) ++ (cutS s (some (j : Int)) none)), ((cutS s none (some (j : Int))) ++ (cutS s (some ((j : Int) + (1 : Int))) none)), (((cutS s none (some (j : Int))) ++ g) ++ (cutS s (some ((j : Int) + (1 : Int))) none)), (s ++ g)], Lx 111 10 y := fun y hy => by
    simp only [List.mem_cons, List.not_mem_nil, or_false] at hy
    rcases hy with rfl | rfl | rfl | rfl
    · exact b1
    · exact b2
    · exact b3
    · exact b4
  have sx : ∀ y, Lx 111 10 y → Sx y := fun y hy => lx_sx hy (by decide) (by decide)
  have four : [(((cutS s none (some (j : Int))) ++ g) ++ (cutS s (some (j : Int)) none)), ((cutS s none (some (j : Int))) ++ (cutS s (some ((j : Int) + (1 : Int))) none)), (((cutS s none (some (j : Int))) ++ g) ++ (cutS s (some ((j : Int) + (1 : Int))) none)), (s ++ g)].length ≤ lim := lim_le (by show 4 ≤ 100000; decide)
  have eqs : [(((cutS s none (some (j : Int))) ++ g) ++ (cutS s (some (j : Int)) none)), ((cutS s none (some (j : Int))) ++ (cutS s (some ((j : Int) + (1 : Int))) none)), (((cutS s none (some (j : Int))) ++ g) ++ (cutS s (some ((j : Int) + (1 : Int))) none)), (s ++ g)].map (fun (y5 : Str) => (heardD y5)) = [(((cutS s none (some (j : Int))) ++ g) ++ (cutS s (some (j : Int)) none)), ((cutS s none (some (j : Int))) ++ (cutS s (some ((j : Int) + (1 : Int))) none)), (((cutS s none (some (j : Int))) ++ g) ++ (cutS s (some ((j : Int) + (1 : Int))) none)), (s ++ g)].map (fun (y6 : Str) => (readD y6)) := List.map_congr_left fun y hy => heard_read (sx y (all y hy))
  rw [eqs]
  refine Co.asr ⟨⟨⟨lim_le (by omega), lim_le (by omega)⟩, lim_le (by omega), lim_le (by rw [len_app]; omega)⟩, ⟨lim_le (by omega), lim_le (by omega), lim_le (by omega)⟩, ⟨⟨lim_le (by omega), lim_le (by omega)⟩, lim_le (by omega), lim_le (by rw [len_app]; omega)⟩, lim_le (by omega)⟩ ?_
  refine Co.asr ⟨⟨four, fun y hy => sx y (all y hy)⟩, ⟨four, fun y hy => lx_rd (sx y (all y hy))⟩, rfl, ?_⟩ ?_
  · refine (pl_of (f := eD) (n := 38) (lim_le (by rw [List.length_map]; show 4 ≤ 100000; decide)) fun d hd => ?_).1
    obtain ⟨y, hy, rfl⟩ := List.mem_map.mp hd
    exact pl_read ⟨(all y hy).1, Nat.le_trans (all y hy).2 (by decide)⟩ (by decide)
  rw [show ∀ a b : D, sameF a b = true from fun _ _ => rfl, if_neg (by decide)]
  exact Co.ret rfl
theorem co_2 {u : Unit} {x : Int} : Co true 4000 (f__law_right_2 u () x) fun r => r = .inl () := by
  unfold f__law_right_2
  refine Co.le (c := 20 + 3900) (Co.bind ((co_tags (u := u) (n := 3) (by decide)).mono fun T hT => ?_)) (by omega)
  have h0 : T ≠ [] := fun e => by have := hT.len; rw [e] at this; exact absurd this (by decide)
  have tl := hT.len
  refine Co.le (c := 3000 + 900) (Co.bind ((co_rows (u := u) (n := 9) h0 (by omega) (by decide)).mono fun rows ⟨r1, r2, r3⟩ => ?_)) (by omega)
  obtain ⟨tx, te, lx, hg, sz⟩ := wood_is r1 r2 (fun q hq => (r3 q hq).1) fun q hq => hT.sub _ (r3 q hq).2
  have wd : okWood rows := ⟨⟨r1, by omega⟩, fun q hq => by have := (r3 q hq).1; omega⟩
  have fk := flat_ok tx
  obtain ⟨g1, g2⟩ := tells_good te
  have hd : heardD (flatF (foOf rows)) = eFo (foOf rows) := by
    unfold heardD
    rw [if_pos g1, g2, fo_self]
  have fn := fo_nodes r1
  have ft : f_Forest_text (mkFor (foOf rows)) = flatF (foOf rows) := by
    show f_text_of (nodes 1 (foOf rows)) = _
    rw [fn]; exact (text_is tx).1
  have vt : vc_Forest_text (mkFor (foOf rows)) := by
    show vc_text_of (nodes 1 (foOf rows))
    rw [fn]; exact (text_is tx).2
  have l1 : 1 ≤ (flatF (foOf rows)).length := by
    rw [← cs_len]
    rcases te with ⟨e, _⟩ | ⟨a, b, e⟩
    · rw [e]; decide
    · have := (ft_sizes _ b).2.2
      rw [e]
      cases q : foOf rows with
      | nil => exact absurd q a
      | cons x p r =>
        rw [q] at this
        have : p.size + r.size + 1 ≤ (FT (.cons x p r)).length := this
        omega
  rw [hd, ft]
  refine Co.asr wd (Co.asr fk (Co.asr ⟨⟨lx_sx lx (by decide) (by decide), show (foOf rows).size ≤ 60000 by omega, vt⟩, rfl, ?_⟩ ?_))
  · refine (pl_of (f := eD) (n := 38) (lim_le (by show 2 ≤ 100000; decide)) fun d hd => ?_).1
    simp only [List.mem_cons, List.not_mem_nil, or_false] at hd
    rcases hd with rfl | rfl
    · exact pl_fo hg (by omega)
    · exact pl_str
  rw [show ∀ a b : D, sameF a b = true from fun _ _ => rfl, if_neg (by decide)]
  refine Co.asr (inR_nat (n := 4) (by decide)) ?_
  have q := co_loop (b := true) (n := 2) (step := f__law_right_3 u (flatF (foOf rows))) (I := fun _ _ => True) (rngI 0 (4 : Int).toNat) 0 () trivial fun j z x _ => (co_bent (u := u) (x := x) lx l1).mono fun r hr => ⟨(), hr, trivial⟩
  rw [len_rngI] at q
  exact Co.le (c := 4 * 2 + 0) (Co.bind (q.mono fun r ⟨z, hr, _⟩ => by subst hr; exact Co.ret rfl)) (by omega)
theorem co_right : Co true 50000 (f__law_right ()) fun b => b = true := by
  unfold f__law_right
  rw [if_neg (by decide)]
  unfold f__law_right_1
  refine Co.asr (inR_nat (n := 10) (by decide)) ?_
  have q := co_loop (b := true) (n := 4000) (step := f__law_right_2 ()) (I := fun _ _ => True) (rngI 0 (10 : Int).toNat) 0 () trivial fun j z x _ => co_2.mono fun r hr => ⟨(), hr, trivial⟩
  rw [len_rngI] at q
  exact Co.le (c := 10 * 4000 + 0) (Co.bind (q.mono fun r ⟨z, hr, _⟩ => by subst hr; exact Co.ret rfl)) (by omega)
theorem wp_any {p q : Pg D} {n m : Nat} {k : D → Prop} (h : Ref p q) (c : Co true n p k) (e : n ≤ m) : wpB true m q fun d _ => k d := (Co.ref h c).wp e
theorem right_t1 : Co true 50000 ((f__law_right ()).bind fun a => .ret (eB a)) fun d => d = .bl true := Co.map (co_right.mono fun b hb => by rw [hb])
theorem right_t2 : Ref ((f__law_right ()).bind fun a => .ret (eB a)) (F__law_right [.cell 0]) := t__law_right ()
theorem right_any (q : Pg D) (h : q = F__law_right [.cell 0]) : wpB true 1000000 q fun d _ => d = .bl true := by
  have t2 : Ref ((f__law_right ()).bind fun a => .ret (eB a)) q := by rw [h]; exact right_t2
  exact wp_any t2 right_t1 (by decide)
theorem right_ok : WpE F__law_right := by
  refine ⟨?_⟩
  obtain ⟨q, hq⟩ : ∃ q, q = F__law_right [.cell 0] := ⟨_, rfl⟩
  exact ⟨q, hq, right_any q hq⟩
theorem law_ok {ns : List Int} (hl : ns.length ≤ 63) : F_law [.frl (ns.map D.int)] = .ret (.bl true) := law_in2 (t := 3) rfl (by decide) (by decide) hl
end Q03
end
section
set_option Elab.async false
set_option linter.all false
set_option maxRecDepth 100000
set_option maxHeartbeats 8000000
namespace Q03
open PySem PySem.W PySem.Calls PyProof.Rows L2 DL He He5 Pk Pg0
theorem ty_ok {K : Frag} {x : PySem.Str} (c : tTyC x K = true) (h : Cls K (ga K x)) : TyC K (ga K x) := by
  obtain ⟨c1, c⟩ := Bool.and_eq_true_iff.mp c
  obtain ⟨c2, c⟩ := Bool.and_eq_true_iff.mp c
  obtain ⟨c3, c4⟩ := Bool.and_eq_true_iff.mp c
  exact ⟨h, of_decide_eq_true c1, of_decide_eq_true c2, of_decide_eq_true c3, of_decide_eq_true c4⟩
theorem top_ok {K : Frag} {h : Heap} {mg : PySem.Str → Option Value} (X : K.In h) (G : h.Ns mainGlobals mg) (c : SaysF fa fn K) : Top K mg :=
  have ty_Forest := ty_ok (c.fact 42 (f := tTyC "Forest")) (cls_ok (c.fact 39 (f := tFa (.cls "Forest"))))
  { b_ValueError := free_ok X G (c.fact 21 (f := tFa (.free "ValueError"))),
    b_abs := free_ok X G (c.fact 22 (f := tFa (.free "abs"))),
    b_all := free_ok X G (c.fact 23 (f := tFa (.free "all"))),
    b_bool := free_ok X G (c.fact 24 (f := tFa (.free "bool"))),
    b_enumerate := free_ok X G (c.fact 25 (f := tFa (.free "enumerate"))),
    b_int := free_ok X G (c.fact 26 (f := tFa (.free "int"))),
    b_isinstance := free_ok X G (c.fact 27 (f := tFa (.free "isinstance"))),
    b_len := free_ok X G (c.fact 28 (f := tFa (.free "len"))),
    b_list := free_ok X G (c.fact 29 (f := tFa (.free "list"))),
    b_max := free_ok X G (c.fact 30 (f := tFa (.free "max"))),
    b_range := free_ok X G (c.fact 31 (f := tFa (.free "range"))),
    b_str := free_ok X G (c.fact 32 (f := tFa (.free "str"))),
    b_tuple := free_ok X G (c.fact 33 (f := tFa (.free "tuple"))),
    b_zip := free_ok X G (c.fact 34 (f := tFa (.free "zip"))),
    g_LETTERS := str_ok X G (c.fact 35 (f := tFa (.str "LETTERS" "abcdefghijklmnopqrstuvwxyz"))),
    g_LONGEST := int_ok X G (c.fact 36 (f := tFa (.int "LONGEST" 8))),
    g_NOTHING := str_ok X G (c.fact 37 (f := tFa (.str "NOTHING" "-"))),
    g_Forest := glo_ok X G (c.fact 38 (f := tFa (.glo "Forest"))),
    cl_Forest := cls_ok (c.fact 39 (f := tFa (.cls "Forest"))),
    self_Forest := (c.fact 41 (f := tSelf "Forest")),
    ty_Forest := ty_Forest,
    ne_Forest := of_decide_eq_true (c.fact 43 (f := tNe "Forest")),
    isf_Forest := ⟨fun t z ht => (by cases ht), fun d z hd => (by rcases List.mem_cons.1 hd with e | hd; cases e; exact ⟨ty_Forest, of_decide_eq_true (c.fact 62 (f := tKitC "Forest" "Forest" true))⟩; cases hd)⟩,
    gx_BadText := glo_ok X G (c.fact 53 (f := tFa (.glo "BadText"))),
    gx_NoPlace := glo_ok X G (c.fact 54 (f := tFa (.glo "NoPlace"))),
    no_Forest_own_rows := noat_ok (c.fact 55 (f := tFa (.noat "Forest" "own_rows"))),
    xa_BadText_NoPlace := fun z hz => (by rcases List.mem_cons.1 hz with rfl | hz; exact of_decide_eq_true (c.fact 56 (f := tExA "BadText" "BadText" "NoPlace")); rw [List.mem_singleton.1 hz]; exact of_decide_eq_true (c.fact 57 (f := tExA "NoPlace" "BadText" "NoPlace"))),
    xc_BadText := excC_ok (c.fact 58 (f := tExcC "BadText")),
    xi_BadText_ValueError := of_decide_eq_true (c.fact 59 (f := tKitX "BadText" "ValueError" true)),
    xk_BadText := excK_ok (c.fact 60 (f := tExcK "BadText")),
    xo_BadText_BadText := of_decide_eq_true (c.fact 61 (f := tKitXo "BadText" "BadText" true)) }
section
variable {P : Program} {w : World} {K : Frag} {h base : Heap} {mg : PySem.Str → Option Value} {f : Addr} {fd : FuncData}
theorem b_N_Forest_1 {a0 : Addr} (Fn : FnD K "__init__" "Forest.__init__" s_Forest___init__ [.ref a0] f fd) : ∃ ds, Vals [] ds ∧ Binds K fd ["self", "trees"] ds :=
  FunD.binds1 (ps := ["self", "trees"]) Fn 2 1 (by simp) rfl fun T kV doc pm an cdv ct us its h1 h2 => match us, its, h1, h2 with | [_, _], [_], _, _ => ⟨_, rfl, rfl⟩
theorem k_SK_Forest_of (Fn : FnD K "of" "Forest.of" s_Forest_of [] f fd) : KBn K fd ["text"] 0 ["text"] (fun us ws => us ++ ws) (fun vs zs => vs ++ zs) :=
  kbn_of Fn 0 ["text"] (fun a b => a ++ b) (fun r1 r2 => r1.append r2) fun kV doc pm an cdv ct us ws h1 h2 => match us, ws, h1, h2 with | [], [_], _, _ => rfl
end
theorem law_fn {P : Program} {w : World} {K : Frag} {h : Heap} {mg : PySem.Str → Option Value} (X : K.In h) (G : h.Ns mainGlobals mg) (c : SaysF fa fn K) :
    ∃ fd, FnD K "law" "law" s_law [] (gA "law" K) fd ∧ ∀ base : Heap, FnOk P w K mg base CX0 66 (gA "law" K) fd ["_law_script"] (spOf K (spW (gam K) [] F_law)) := by
  have T := top_ok X G c
  obtain ⟨fd_is_name, Fn_is_name⟩ := c.def_ 0
  obtain ⟨fd_nodes_of, Fn_nodes_of⟩ := c.def_ 1
  obtain ⟨fd_trees_of, Fn_trees_of⟩ := c.def_ 2
  obtain ⟨fd_text_of, Fn_text_of⟩ := c.def_ 3
  obtain ⟨fd_rows_in, Fn_rows_in⟩ := c.def_ 4
  obtain ⟨fd__law_box, Fn__law_box⟩ := c.def_ 5
  obtain ⟨fd__law_take, Fn__law_take⟩ := c.def_ 6
  obtain ⟨fd__law_cells, Fn__law_cells⟩ := c.def_ 7
  obtain ⟨fd__law_of, Fn__law_of⟩ := c.def_ 8
  obtain ⟨fd__law_same, Fn__law_same⟩ := c.def_ 9
  obtain ⟨fd__law_mixed, Fn__law_mixed⟩ := c.def_ 10
  obtain ⟨fd__law_tags, Fn__law_tags⟩ := c.def_ 11
  obtain ⟨fd__law_rows, Fn__law_rows⟩ := c.def_ 12
  obtain ⟨fd__law_trees, Fn__law_trees⟩ := c.def_ 13
  obtain ⟨fd__law_flat, Fn__law_flat⟩ := c.def_ 14
  obtain ⟨fd__law_heard, Fn__law_heard⟩ := c.def_ 15
  obtain ⟨fd__law_grown, Fn__law_grown⟩ := c.def_ 16
  obtain ⟨fd__law_read, Fn__law_read⟩ := c.def_ 17
  obtain ⟨fd__law_by_hand_right, Fn__law_by_hand_right⟩ := c.def_ 18
  obtain ⟨fd__law_right, Fn__law_right⟩ := c.def_ 19
  obtain ⟨fd_law, Fn_law⟩ := c.def_ 20
  obtain ⟨fd_Forest___init__, Fn_Forest___init__⟩ := c.def_ 21
  obtain ⟨fd_Forest_of, Fn_Forest_of⟩ := c.def_ 22
  obtain ⟨fd_Forest_trees, Fn_Forest_trees⟩ := c.def_ 23
  obtain ⟨fd_Forest_text, Fn_Forest_text⟩ := c.def_ 24
  obtain ⟨fd_Forest_depth, Fn_Forest_depth⟩ := c.def_ 25
  obtain ⟨fd_Forest___len__, Fn_Forest___len__⟩ := c.def_ 26
  obtain ⟨fd_Forest_check, Fn_Forest_check⟩ := c.def_ 27
  obtain ⟨fd_Forest___getitem__, Fn_Forest___getitem__⟩ := c.def_ 28
  obtain ⟨fd_Forest___add__, Fn_Forest___add__⟩ := c.def_ 29
  obtain ⟨fd_Forest___eq__, Fn_Forest___eq__⟩ := c.def_ 30
  refine ⟨_, Fn_law, fun base => ?_⟩
  have C__law_take : Cal P w K mg base "_law_take" 1 (spW (gam K) [] takeP) := ⟨_, _, _, take_ok (ok__law_take T Fn__law_take), (glo_ok X G (c.fact 6 (f := tFa (.glo "_law_take")))), Fn__law_take.kp, (FunD.bindsN (ps := ["_law_urn", "_law_low_so"]) Fn__law_take fun _ _ _ _ _ _ us hl => match us, hl with | [_, _], _ => rfl)⟩
  have C_box : Cal P w K mg base "_law_box" 1 spBox := ⟨_, _, _, ok__law_box T Fn__law_box, (glo_ok X G (c.fact 5 (f := tFa (.glo "_law_box")))), Fn__law_box.kp, (FunD.bindsN (ps := ["_law_script", "_law_k"]) Fn__law_box fun _ _ _ _ _ _ us hl => match us, hl with | [_, _], _ => rfl)⟩
  have C_is_name : Cal P w K mg base "is_name" 1 (spW (gam K) [] F_is_name) := ⟨_, _, _, ok_is_name T Fn_is_name, (glo_ok X G (c.fact 0 (f := tFa (.glo "is_name")))), Fn_is_name.kp, (FunD.bindsN (ps := ["thing"]) Fn_is_name fun _ _ _ _ _ _ us hl => match us, hl with | [_], _ => rfl)⟩
  have C_nodes_of : Cal P w K mg base "nodes_of" 1 (spW (gam K) [] F_nodes_of) := ⟨_, _, _, ok_nodes_of T Fn_nodes_of, (glo_ok X G (c.fact 1 (f := tFa (.glo "nodes_of")))), Fn_nodes_of.kp, (FunD.bindsN (ps := ["trees"]) Fn_nodes_of fun _ _ _ _ _ _ us hl => match us, hl with | [_], _ => rfl)⟩
  have C_trees_of : Cal P w K mg base "trees_of" 1 (spW (gam K) [] F_trees_of) := ⟨_, _, _, ok_trees_of T Fn_trees_of, (glo_ok X G (c.fact 2 (f := tFa (.glo "trees_of")))), Fn_trees_of.kp, (FunD.bindsN (ps := ["rows"]) Fn_trees_of fun _ _ _ _ _ _ us hl => match us, hl with | [_], _ => rfl)⟩
  have C_text_of : Cal P w K mg base "text_of" 1 (spW (gam K) [] F_text_of) := ⟨_, _, _, ok_text_of T Fn_text_of, (glo_ok X G (c.fact 3 (f := tFa (.glo "text_of")))), Fn_text_of.kp, (FunD.bindsN (ps := ["rows"]) Fn_text_of fun _ _ _ _ _ _ us hl => match us, hl with | [_], _ => rfl)⟩
  have C_rows_in : Cal P w K mg base "rows_in" 1 (spW (gam K) [] F_rows_in) := ⟨_, _, _, ok_rows_in T Fn_rows_in, (glo_ok X G (c.fact 4 (f := tFa (.glo "rows_in")))), Fn_rows_in.kp, (FunD.bindsN (ps := ["text"]) Fn_rows_in fun _ _ _ _ _ _ us hl => match us, hl with | [_], _ => rfl)⟩
  obtain ⟨dd_N_Forest_1, vv_N_Forest_1, BB_N_Forest_1⟩ := b_N_Forest_1 Fn_Forest___init__
  have N_Forest_1 : MakD P w K mg base "Forest" (gam K 3) 2 [] (spN (gam K) 3 F_Forest___init__) := ⟨_, _, _, _, _, (mkr_ok (c.fact 40 (f := tFa (.mkr "Forest")))), (ok_Forest___init__ T C_nodes_of Fn_Forest___init__), (glo_ok X G (c.fact 38 (f := tFa (.glo "Forest")))), BB_N_Forest_1, vv_N_Forest_1, fun F => IsL.nil⟩
  have St_Forest_of : StaD P w K mg base (gam K 3) "of" 4 (spW (gam K) [] F_Forest_of) := ⟨_, _, _, _, ok_Forest_of T C_is_name C_rows_in C_text_of C_trees_of N_Forest_1 Fn_Forest_of, (tSta_ok (c.fact 44 (f := tSta "Forest" "of"))).1, (tSta_ok (c.fact 44 (f := tSta "Forest" "of"))).2, Fn_Forest_of.kp, (FunD.bindsN (ps := ["text"]) Fn_Forest_of fun _ _ _ _ _ _ us hl => match us, hl with | [_], _ => rfl)⟩
  have SK_Forest_of : StaKX P w K mg base (gam K 3) "of" 4 ["text"] (fun a b => a ++ b) (spWX (gam K) [] FX_Forest_of) := ⟨_, _, _, _, _, _, (okx_Forest_of T C_is_name C_rows_in C_text_of C_trees_of N_Forest_1 Fn_Forest_of), (tSta_ok (c.fact 44 (f := tSta "Forest" "of"))).1, (tSta_ok (c.fact 44 (f := tSta "Forest" "of"))).2, Fn_Forest_of.kp, k_SK_Forest_of Fn_Forest_of, fun _ _ _ _ _ h1 h2 => h1.app h2⟩
  have Pr_Forest_trees : PropD P w K mg base (gam K 3) "trees" 2 (spW (gam K) [] F_Forest_trees) := ⟨_, _, _, _, ok_Forest_trees T C_trees_of Fn_Forest_trees, tProp_ok (c.fact 45 (f := tProp "Forest" "trees")), (FunD.bindsN (ps := ["self"]) Fn_Forest_trees fun _ _ _ _ _ _ us hl => match us, hl with | [_], _ => rfl)⟩
  have Pr_Forest_text : PropD P w K mg base (gam K 3) "text" 2 (spW (gam K) [] F_Forest_text) := ⟨_, _, _, _, ok_Forest_text T C_text_of Fn_Forest_text, tProp_ok (c.fact 46 (f := tProp "Forest" "text")), (FunD.bindsN (ps := ["self"]) Fn_Forest_text fun _ _ _ _ _ _ us hl => match us, hl with | [_], _ => rfl)⟩
  have Pr_Forest_depth : PropD P w K mg base (gam K 3) "depth" 1 (spW (gam K) [] F_Forest_depth) := ⟨_, _, _, _, ok_Forest_depth T Fn_Forest_depth, tProp_ok (c.fact 47 (f := tProp "Forest" "depth")), (FunD.bindsN (ps := ["self"]) Fn_Forest_depth fun _ _ _ _ _ _ us hl => match us, hl with | [_], _ => rfl)⟩
  have Me_Forest_len : MethD P w K mg base (gam K 3) "__len__" 1 (spW (gam K) [] F_Forest___len__) := ⟨_, _, _, ok_Forest___len__ T Fn_Forest___len__, meth_ok (c.fact 48 (f := tFa (.meth "Forest" "__len__"))), (FunD.bindsN (ps := ["self"]) Fn_Forest___len__ fun _ _ _ _ _ _ us hl => match us, hl with | [_], _ => rfl)⟩
  have Me_Forest_check : MethD P w K mg base (gam K 3) "check" 1 (spW (gam K) [] F_Forest_check) := ⟨_, _, _, ok_Forest_check T Fn_Forest_check, meth_ok (c.fact 49 (f := tFa (.meth "Forest" "check"))), (FunD.bindsN (ps := ["self", "place"]) Fn_Forest_check fun _ _ _ _ _ _ us hl => match us, hl with | [_, _], _ => rfl)⟩
  have Me_Forest_getitem : MethD P w K mg base (gam K 3) "__getitem__" 2 (spW (gam K) [] F_Forest___getitem__) := ⟨_, _, _, ok_Forest___getitem__ T Me_Forest_check Fn_Forest___getitem__, meth_ok (c.fact 50 (f := tFa (.meth "Forest" "__getitem__"))), (FunD.bindsN (ps := ["self", "place"]) Fn_Forest___getitem__ fun _ _ _ _ _ _ us hl => match us, hl with | [_, _], _ => rfl)⟩
  have Mi_Forest_getitem : MethI P w K mg base (gam K 3) "__getitem__" 2 (spW (gam K) [] F_Forest___getitem__) := ⟨_, _, _, ok_Forest___getitem__ T Me_Forest_check Fn_Forest___getitem__, meth_ok (c.fact 50 (f := tFa (.meth "Forest" "__getitem__"))), (FunD.bindsN (ps := ["self", "place"]) Fn_Forest___getitem__ fun _ _ _ _ _ _ us hl => match us, hl with | [_, _], _ => rfl), fnIn_of Fn_Forest___getitem__⟩
  have Me_Forest_add : MethD P w K mg base (gam K 3) "__add__" 4 (spW (gam K) [] F_Forest___add__) := ⟨_, _, _, ok_Forest___add__ T N_Forest_1 Pr_Forest_trees Fn_Forest___add__, meth_ok (c.fact 51 (f := tFa (.meth "Forest" "__add__"))), (FunD.bindsN (ps := ["self", "other"]) Fn_Forest___add__ fun _ _ _ _ _ _ us hl => match us, hl with | [_, _], _ => rfl)⟩
  have Me_Forest_eq : MethD P w K mg base (gam K 3) "__eq__" 1 (spW (gam K) [] F_Forest___eq__) := ⟨_, _, _, ok_Forest___eq__ T Fn_Forest___eq__, meth_ok (c.fact 52 (f := tFa (.meth "Forest" "__eq__"))), (FunD.bindsN (ps := ["self", "other"]) Fn_Forest___eq__ fun _ _ _ _ _ _ us hl => match us, hl with | [_, _], _ => rfl)⟩
  have C__law_cells : Cal P w K mg base "_law_cells" 1 (spW (gam K) [] F__law_cells) := ⟨_, _, _, ok__law_cells T Fn__law_cells, (glo_ok X G (c.fact 7 (f := tFa (.glo "_law_cells")))), Fn__law_cells.kp, (FunD.bindsN (ps := ["_law_script", "_law_top"]) Fn__law_cells fun _ _ _ _ _ _ us hl => match us, hl with | [_, _], _ => rfl)⟩
  have C__law_of : Cal P w K mg base "_law_of" 2 (spW (gam K) [false, true] F__law_of) := ⟨_, _, _, ok__law_of T C__law_take Fn__law_of, (glo_ok X G (c.fact 8 (f := tFa (.glo "_law_of")))), Fn__law_of.kp, (FunD.bindsN (ps := ["_law_urn", "_law_some_so"]) Fn__law_of fun _ _ _ _ _ _ us hl => match us, hl with | [_, _], _ => rfl)⟩
  have C__law_same : Cal P w K mg base "_law_same" 41 (spW (gam K) [] (F__law_same 40)) := ⟨_, _, _, ok__law_same T Fn__law_same (glo_ok X G (c.fact 9 (f := tFa (.glo "_law_same")))) (FunD.bindsN (ps := ["_law_got", "_law_goal"]) Fn__law_same fun _ _ _ _ _ _ us hl => match us, hl with | [_, _], _ => rfl) 40, (glo_ok X G (c.fact 9 (f := tFa (.glo "_law_same")))), Fn__law_same.kp, (FunD.bindsN (ps := ["_law_got", "_law_goal"]) Fn__law_same fun _ _ _ _ _ _ us hl => match us, hl with | [_, _], _ => rfl)⟩
  have C__law_mixed : Cal P w K mg base "_law_mixed" 2 (spW (gam K) [] F__law_mixed) := ⟨_, _, _, ok__law_mixed T C__law_take Fn__law_mixed, (glo_ok X G (c.fact 10 (f := tFa (.glo "_law_mixed")))), Fn__law_mixed.kp, (FunD.bindsN (ps := ["_law_urn", "_law_pool"]) Fn__law_mixed fun _ _ _ _ _ _ us hl => match us, hl with | [_, _], _ => rfl)⟩
  have C__law_tags : Cal P w K mg base "_law_tags" 3 (spW (gam K) [] F__law_tags) := ⟨_, _, _, ok__law_tags T C__law_mixed C__law_take Fn__law_tags, (glo_ok X G (c.fact 11 (f := tFa (.glo "_law_tags")))), Fn__law_tags.kp, (FunD.bindsN (ps := ["_law_urn", "_law_many_so"]) Fn__law_tags fun _ _ _ _ _ _ us hl => match us, hl with | [_, _], _ => rfl)⟩
  have C__law_rows : Cal P w K mg base "_law_rows" 3 (spW (gam K) [] F__law_rows) := ⟨_, _, _, ok__law_rows T C__law_of C__law_take Fn__law_rows, (glo_ok X G (c.fact 12 (f := tFa (.glo "_law_rows")))), Fn__law_rows.kp, (FunD.bindsN (ps := ["_law_urn", "_law_tags_here", "_law_most"]) Fn__law_rows fun _ _ _ _ _ _ us hl => match us, hl with | [_, _, _], _ => rfl)⟩
  have C__law_trees : Cal P w K mg base "_law_trees" 17 (spW (gam K) [] (F__law_trees 16)) := ⟨_, _, _, ok__law_trees T Fn__law_trees (glo_ok X G (c.fact 13 (f := tFa (.glo "_law_trees")))) (FunD.bindsN (ps := ["_law_rows_so"]) Fn__law_trees fun _ _ _ _ _ _ us hl => match us, hl with | [_], _ => rfl) 16, (glo_ok X G (c.fact 13 (f := tFa (.glo "_law_trees")))), Fn__law_trees.kp, (FunD.bindsN (ps := ["_law_rows_so"]) Fn__law_trees fun _ _ _ _ _ _ us hl => match us, hl with | [_], _ => rfl)⟩
  have C__law_flat : Cal P w K mg base "_law_flat" 17 (spW (gam K) [] (F__law_flat 16)) := ⟨_, _, _, ok__law_flat T Fn__law_flat (glo_ok X G (c.fact 14 (f := tFa (.glo "_law_flat")))) (FunD.bindsN (ps := ["_law_trees_so"]) Fn__law_flat fun _ _ _ _ _ _ us hl => match us, hl with | [_], _ => rfl) 16, (glo_ok X G (c.fact 14 (f := tFa (.glo "_law_flat")))), Fn__law_flat.kp, (FunD.bindsN (ps := ["_law_trees_so"]) Fn__law_flat fun _ _ _ _ _ _ us hl => match us, hl with | [_], _ => rfl)⟩
  have C__law_heard : Cal P w K mg base "_law_heard" 5 (spW (gam K) [] F__law_heard) := ⟨_, _, _, ok__law_heard T Pr_Forest_text Pr_Forest_trees SK_Forest_of Fn__law_heard, (glo_ok X G (c.fact 15 (f := tFa (.glo "_law_heard")))), Fn__law_heard.kp, (FunD.bindsN (ps := ["_law_flat_here"]) Fn__law_heard fun _ _ _ _ _ _ us hl => match us, hl with | [_], _ => rfl)⟩
  have C__law_grown : Cal P w K mg base "_law_grown" 63 (spW (gam K) [] (F__law_grown 62)) := ⟨_, _, _, ok__law_grown T Fn__law_grown (glo_ok X G (c.fact 16 (f := tFa (.glo "_law_grown")))) (FunD.bindsN (ps := ["_law_flat_here", "_law_k"]) Fn__law_grown fun _ _ _ _ _ _ us hl => match us, hl with | [_, _], _ => rfl) 62, (glo_ok X G (c.fact 16 (f := tFa (.glo "_law_grown")))), Fn__law_grown.kp, (FunD.bindsN (ps := ["_law_flat_here", "_law_k"]) Fn__law_grown fun _ _ _ _ _ _ us hl => match us, hl with | [_, _], _ => rfl)⟩
  have C__law_read : Cal P w K mg base "_law_read" 64 (spW (gam K) [] F__law_read) := ⟨_, _, _, ok__law_read T C__law_grown Fn__law_read, (glo_ok X G (c.fact 17 (f := tFa (.glo "_law_read")))), Fn__law_read.kp, (FunD.bindsN (ps := ["_law_flat_here"]) Fn__law_read fun _ _ _ _ _ _ us hl => match us, hl with | [_], _ => rfl)⟩
  have C__law_by_hand_right : Cal P w K mg base "_law_by_hand_right" 42 (spW (gam K) [] F__law_by_hand_right) := ⟨_, _, _, ok__law_by_hand_right T C__law_heard C__law_same Me_Forest_len N_Forest_1 Pr_Forest_depth Pr_Forest_text St_Forest_of Fn__law_by_hand_right, (glo_ok X G (c.fact 18 (f := tFa (.glo "_law_by_hand_right")))), Fn__law_by_hand_right.kp, (FunD.bindsN (ps := []) Fn__law_by_hand_right fun _ _ _ _ _ _ us hl => match us, hl with | [], _ => rfl)⟩
  have C__law_right : Cal P w K mg base "_law_right" 65 (spW (gam K) [] F__law_right) := ⟨_, _, _, ok__law_right T C__law_by_hand_right C__law_flat C__law_heard C__law_of C__law_read C__law_rows C__law_same C__law_tags C__law_take C__law_trees N_Forest_1 Pr_Forest_text Fn__law_right, (glo_ok X G (c.fact 19 (f := tFa (.glo "_law_right")))), Fn__law_right.kp, (FunD.bindsN (ps := ["_law_urn"]) Fn__law_right fun _ _ _ _ _ _ us hl => match us, hl with | [_], _ => rfl)⟩
  exact ok_law T C__law_cells C__law_right C_box right_ok Fn_law
theorem law_sp {K : Frag} {H : Hp} {a : Addr} {ns : List Int} (hl : ns.length ≤ 63) (hS : SqL K H a (ns.map V.int)) : spOf K (spW (gam K) [] F_law) [.ref a] H (fun v _ => v = .bl true) (fun _ _ _ => False) := by
  refine ⟨[.frl (ns.map D.int)], H, fun _ => none, fun d _ => d = .bl true, ?_, ⟨?_, ?_⟩, ⟨false, (0, 0), [.frl (ns.map D.int)], 0, ?_, ?_, ?_⟩, ?_⟩
  · exact IsL.cons (by unfold Is; exact ⟨a, _, rfl, hS, (IsL.ints ns).2 rfl⟩) IsL.nil
  · exact fun _ _ h => .inl h
  · intro a m h; cases h
  · show [D.frl (ns.map D.int)] = rnL _ [D.frl (ns.map D.int)]
    simp only [rnL, rn, rn_ints]
  · exact fun h => by cases h
  · rw [law_ok hl]
    exact fun _ _ => rfl
  · intro d M' F' H' v hk _ _ his
    subst hk
    exact is_bl.1 his
end Q03
end
set_option Elab.async false
set_option linter.all false
set_option maxRecDepth 100000
set_option maxHeartbeats 0
open PySem PySem.W PySem.Calls PyProof.Rows
theorem PySem.Challenge.cw_deepcuts_k03_forests_as_texts_holds : PySem.Challenge.rw_deepcuts_k03_forests_as_texts.Holds := by
  w_on; o_law
  refine HandSHeadRun.head_any (r := OpenLaw.row PySem.Challenge.rw_deepcuts_k03_forests_as_texts) (q := view (OpenLaw.row PySem.Challenge.rw_deepcuts_k03_forests_as_texts).prog [31]) (H := Q03.hk) (ob := Q03.ob) (M := 8000) (loose := Q03.loose) (d := HandSHeadRun.topDef (OpenLaw.row PySem.Challenge.rw_deepcuts_k03_forests_as_texts).prog 31) (kwd := []) Q03.ob_eq
    (by kernel_rfl) (fun s => by kernel_rfl) Q03.run (by kernel_rfl) (by kernel_rfl) (by kernel_rfl) (by rfl) (by first | assumption | decide +kernel) (by decide +kernel) ⟨rfl, rfl, rfl, rfl, rfl, by decide +kernel⟩ ?hw ?hc
  case hw => w_witness2
  case hc =>
    refine L2.walk_ofE (l := PySem.Challenge.rw_deepcuts_k03_forests_as_texts) (n := 63) (k := 66) (x := "_law_script") (CX := L2.CX0) rfl (by decide) (by kernel_rfl) ⟨rfl, by decide, by decide⟩ ?F (fun _ _ _ _ z => z)
    intro w mg fa h Y G hmg0
    obtain ⟨K, KX, c⟩ := Y
    have hmg : mg ("law" : PySem.Str) = some (.ref fa) := by
      have e : (HandSHeadRun.topDef (OpenLaw.row PySem.Challenge.rw_deepcuts_k03_forests_as_texts).prog 31).name = ("law" : PySem.Str) := by kernel_rfl
      rw [← e]
      exact hmg0
    have e := hmg.symm.trans (He.glo_ok KX G (c.fact 20 (f := DL.tFa (.glo "law"))))
    cases e
    obtain ⟨fd, Fn, hF⟩ := Q03.law_fn (P := (PySem.Challenge.rw_deepcuts_k03_forests_as_texts).prog) (w := w) KX G c
    have b := L2.FunD.bindsA (ps := ["_law_script"]) Fn fun _ _ _ _ _ _ us hl => match us, hl with | [_], _ => rfl
    exact ⟨K, fd, _, KX, fun s v => b s [v] rfl, fun H a ns hl _ hS => Q03.law_sp hl hS, fun base _ _ => hF base⟩
