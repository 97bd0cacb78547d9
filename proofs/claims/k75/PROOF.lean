import PyProof.Rows.All
import Wide.All
import OpenK.AllK
import Wide.FinOn
import KE.KStateDown
import HandS.Base
import HandS.Call
import HandS.Ends
import HandS.Defaults
import HandS.Head0
import HandS.Head1
import HandS.Head2
import HandS.HeadEnd
import HandS.HeadHook1
import HandS.HeadHook2
import HandS.HeadNt
import HandS.Property
import HandS.IsInst
import HandS.ForMost
import HandS.ForExc
import HandS.Wide
import HandS.Flow
import HandS.Zip
import HandS.TupAny
import HandS.DictComp
import HandS.Style
import HandS.Conv
import HandS.SortInts
import HandS.TryOnly
import HandS.MakeKw
import HandS.OwnEq
import HandS.More
import HandS.MakeKwOnly
import PyProof.InstNe
import HandS.Text
import PyProof.ListStr
import PyProof.TupleOfStr
import HandS.Set
import HandS.SetFor
import PyProof.Rows.SortShellAny
import KE.DataFind
import KE.GoesEnum
import KE.GoesMore
import PyProof.Rows.StrInSeq3
import HandS.List
import PyProof.StrOps2
import HandS.Star
import HandS.ClsMeth
import KE.KDictZip
import HandS.TupSets
import PyProof.TupleKey
import KE.KSortTupAny
import HandS.FStr
import PyProof.Rows.RuleB_bool
import HandS.Deep
import HandS.TupMul
import HandS.SortRule
import KE.SortData
import PySem.Challenge.RW_deepcuts_k75_whole_for_all_that_can_be_d
namespace DL
end DL
namespace DRv
end DRv
namespace DSet
end DSet
namespace DCall
end DCall
namespace Q75
end Q75
namespace Pk
end Pk
section
set_option Elab.async false
set_option linter.all false
set_option maxRecDepth 100000
/-! the head: any tests of the written part, and its defs -/
namespace DL
open PySem PySem.W PySem.Calls PyProof.Rows He He5
def obsF (fa : List (Frag → Bool)) (fn : List DefA) (K : Frag) : He.AlD := ((fa.all fun f => f K) && fn.all fun d => d.ok K, fn.map fun d => fnA K (d.at_ K))
def valF (fn : List DefA) : He.AlD := (true, fn.map DefA.val)
def SaysF (fa : List (Frag → Bool)) (fn : List DefA) (K : Frag) : Prop := obsF fa fn K = valF fn
section
variable {fa : List (Frag → Bool)} {fn : List DefA} {K : Frag}
end
/-! ### addresses -/
def gA (x : PySem.Str) (K : Frag) : Addr := ga K x
/-! ### tests -/
def tFa (f : He.Fa) (K : Frag) : Bool := f.ok K
end DL
end
section
set_option Elab.async false
set_option linter.all false
set_option maxRecDepth 100000
/-! tuples of which the whole object is known (no dict of attributes): dict(t) asks for it -/
namespace DL
open PySem PySem.Spec PyProof.Rows L2
abbrev tObj (us : List Value) : Obj := { cls := .type "tuple", data := .seq us.toArray }
/-- a tuple laid with its object -/
def Bare (H : L2.Hp) (a : Addr) (xs : List V) : Prop := ∃ ob : Obj, ob.dict = none ∧ H a = some (.frz ob (.tup xs))
section
variable {X : Cx} {pn : List (Addr × Obj)} {σ : L2.St} {H : Hp} {s : Shared} {g : Heap} {xs : List V} {us : List Value} {Q : VK}
end
section
variable {X : Cx} {es : List Expr} {pos : Pos} {t : TA}
end
end DL
end
section
set_option Elab.async false
set_option linter.all false
set_option maxRecDepth 100000
/-! enumerate and zip in loops: each pair is bare -/
namespace DL
open PySem PySem.Spec PyProof.Rows L2
section
variable {P : Program} {w : World} {K : PySem.W.Frag} {tg : Expr} {J : It} {fp : List Addr} {it : Addr} {tn : Nat → Heap → Prop} {y : Nat → Hp → List V → Prop}
/-- the pair at the end of the heap s1 is known, and the loop's own objects alone have turned -/
structure PairOut (X : Cx) (fp : List Addr) (it : Addr) (s : Shared) (n : Nat) (us : List Value) (s2 : Shared) : Prop where
  obj : s2.heap.get? s.heap.objs.size = some (tObj us)
  rest : ∀ c o, c ∉ fp → s.heap.get? c = some o → s2.heap.get? c = some o
end
section
variable {P : Program} {w : World} {K : PySem.W.Frag} {elts : List Expr} {kk : Nat} {tpos : Pos}
end
section
variable {X : Cx} {e e2 : Expr} {ta : TA} {p pos tpos : Pos} {elts : List Expr} {kk : Nat}
end
end DL
end
section
set_option Elab.async false
set_option linter.all false
set_option maxRecDepth 100000
/-! DL: deep data over the hand layer -/
namespace DL
open PySem L2
/-- data: frozen things by their content, cells by their address -/
inductive D where
  | non | bl (b : Bool) | int (i : Int) | str (x : Str) | ty (n : String)
  | tup (ds : List D) | lst (ds : List D) | frl (ds : List D)
  | dct (ks : List Key) (ds : List D)
  | ins (C : Addr) (fs : List Str) (ds : List D)
  | cell (a : Addr)
/-- a tuple: laid, or of the written part -/
def SqU (K : PySem.W.Frag) (F : Hp) (a : Addr) (xs : List V) : Prop :=
  Bare F a xs ∨ ∃ o : Obj, o.dict = none ∧ ∃ (its : Array Value) (n : Nat), K.lookup a = some o ∧ o.cls = .type "tuple" ∧ o.data = .seq its n ∧ its.size ≤ sizeLine ∧ Vals xs its.toList
mutual
def Is (K : PySem.W.Frag) (F : Hp) : D → V → Prop
  | .non, v => v = .non
  | .bl b, v => v = .bl b
  | .int i, v => v = .int i
  | .str x, v => v = .str x
  | .ty n, v => v = .ty n
  | .tup ds, v => ∃ a vs, v = .ref a ∧ SqU K F a vs ∧ IsL K F ds vs
  | .lst ds, v => ∃ a vs, v = .ref a ∧ F a = some (.lst vs) ∧ IsL K F ds vs
  | .frl ds, v => ∃ a vs, v = .ref a ∧ SqL K F a vs ∧ IsL K F ds vs
  | .dct ks ds, v => ∃ a vs od, v = .ref a ∧ F a = some (.frz od (.dK (ks.zip vs))) ∧ ks.length = ds.length ∧ IsL K F ds vs
  | .ins C fs ds, v => ∃ a dx vs, v = .ref a ∧ F a = some (.ins C dx (fs.zip vs)) ∧ fs.length = ds.length ∧ IsL K F ds vs
  | .cell a, v => v = .ref a
def IsL (K : PySem.W.Frag) (F : Hp) : List D → List V → Prop
  | [], vs => vs = []
  | d :: ds, vs => ∃ v r, vs = v :: r ∧ Is K F d v ∧ IsL K F ds r
end

section
variable {K : PySem.W.Frag} {F F' H H' : Hp}
theorem sqT_mono {a : Addr} {xs : List V} (e : Same F F') (h : SqU K F a xs) : SqU K F' a xs := by
  rcases h with ⟨ob, hd, h⟩ | h
  · exact .inl ⟨ob, hd, e _ _ h⟩
  · exact .inr h
mutual
theorem Is.mono (e : Same F F') : ∀ (d : D) (v : V), Is K F d v → Is K F' d v
  | .non, _, h => by unfold Is at h ⊢; exact h
  | .bl _, _, h => by unfold Is at h ⊢; exact h
  | .int _, _, h => by unfold Is at h ⊢; exact h
  | .str _, _, h => by unfold Is at h ⊢; exact h
  | .ty _, _, h => by unfold Is at h ⊢; exact h
  | .cell _, _, h => by unfold Is at h ⊢; exact h
  | .tup ds, _, h => by
    unfold Is at h ⊢
    obtain ⟨a, vs, e1, h1, h2⟩ := h
    exact ⟨a, vs, e1, sqT_mono e h1, IsL.mono e ds vs h2⟩
  | .lst ds, _, h => by
    unfold Is at h ⊢
    obtain ⟨a, vs, e1, h1, h2⟩ := h
    exact ⟨a, vs, e1, e _ _ h1, IsL.mono e ds vs h2⟩
  | .frl ds, _, h => by
    unfold Is at h ⊢
    obtain ⟨a, vs, e1, h1, h2⟩ := h
    exact ⟨a, vs, e1, e.seq h1, IsL.mono e ds vs h2⟩
  | .dct ks ds, _, h => by
    unfold Is at h ⊢
    obtain ⟨a, vs, od, e1, h1, hl, h2⟩ := h
    exact ⟨a, vs, od, e1, e _ _ h1, hl, IsL.mono e ds vs h2⟩
  | .ins C fs ds, _, h => by
    unfold Is at h ⊢
    obtain ⟨a, dx, vs, e1, h1, hl, h2⟩ := h
    exact ⟨a, dx, vs, e1, e _ _ h1, hl, IsL.mono e ds vs h2⟩
theorem IsL.mono (e : Same F F') : ∀ (ds : List D) (vs : List V), IsL K F ds vs → IsL K F' ds vs
  | [], _, h => by unfold IsL at h ⊢; exact h
  | d :: ds, _, h => by
    unfold IsL at h ⊢
    obtain ⟨v, r, e1, h1, h2⟩ := h
    exact ⟨v, r, e1, Is.mono e d v h1, IsL.mono e ds r h2⟩
end
theorem is_cell {a : Addr} {v : V} : Is K F (.cell a) v ↔ v = .ref a := by unfold Is; exact Iff.rfl
theorem isL_nil {vs : List V} : IsL K F [] vs ↔ vs = [] := by unfold IsL; exact Iff.rfl
theorem isL_cons {d : D} {ds : List D} {vs : List V} : IsL K F (d :: ds) vs ↔ ∃ v r, vs = v :: r ∧ Is K F d v ∧ IsL K F ds r := by
  constructor
  · intro h; unfold IsL at h; exact h
  · intro h; unfold IsL; exact h
theorem IsL.nil : IsL K F [] [] := isL_nil.2 rfl
theorem IsL.cons {d : D} {ds : List D} {v : V} {vs : List V} (h : Is K F d v) (t : IsL K F ds vs) : IsL K F (d :: ds) (v :: vs) := isL_cons.2 ⟨v, vs, rfl, h, t⟩
theorem IsL.length : ∀ {ds : List D} {vs : List V}, IsL K F ds vs → ds.length = vs.length
  | [], _, h => by rw [isL_nil.1 h]; rfl
  | d :: ds, _, h => by
    obtain ⟨v, r, rfl, _, h2⟩ := isL_cons.1 h
    rw [List.length_cons, List.length_cons, IsL.length h2]
theorem IsL.get : ∀ {ds : List D} {vs : List V} {i : Nat} {d : D}, IsL K F ds vs → ds[i]? = some d → ∃ v, vs[i]? = some v ∧ Is K F d v
  | [], _, _, _, _, e => by simp at e
  | d :: ds, _, 0, _, h, e => by
    obtain ⟨v, r, rfl, h1, h2⟩ := isL_cons.1 h
    simp at e
    subst e
    exact ⟨v, rfl, h1⟩
  | d :: ds, _, i + 1, _, h, e => by
    obtain ⟨v, r, rfl, h1, h2⟩ := isL_cons.1 h
    obtain ⟨u, hu, hi⟩ := IsL.get h2 (by simpa using e)
    exact ⟨u, by simpa using hu, hi⟩
theorem IsL.set : ∀ {ds : List D} {vs : List V} {d : D} {v : V} (i : Nat), IsL K F ds vs → Is K F d v → IsL K F (ds.set i d) (vs.set i v)
  | [], _, _, _, i, h, _ => by rw [isL_nil.1 h]; exact IsL.nil
  | d :: ds, _, _, _, 0, h, hn => by
    obtain ⟨v, r, rfl, h1, h2⟩ := isL_cons.1 h
    exact IsL.cons hn h2
  | d :: ds, _, _, _, i + 1, h, hn => by
    obtain ⟨v, r, rfl, h1, h2⟩ := isL_cons.1 h
    exact IsL.cons h1 (IsL.set i h2 hn)
end
/-! ### the store of cells -/
inductive MO where
  | lst (ds : List D)
  | ins (C : Addr) (fs : List Str) (ds : List D)
  | dct (ks : List Key) (ds : List D)
abbrev Store := Addr → Option MO
def mup (M : Store) (a : Addr) (m : MO) : Store := fun b => if b = a then some m else M b
theorem mup_same {M : Store} {a : Addr} {m : MO} : mup M a m a = some m := by unfold mup; rw [if_pos rfl]
theorem mup_ne {M : Store} {a b : Addr} {m : MO} (h : b ≠ a) : mup M a m b = M b := by unfold mup; rw [if_neg h]
def RepM (K : PySem.W.Frag) (F : Hp) : MO → HO → Prop
  | .lst ds, o => ∃ vs, o = .lst vs ∧ IsL K F ds vs
  | .ins C fs ds, o => ∃ dx vs, o = .ins C dx (fs.zip vs) ∧ fs.length = ds.length ∧ IsL K F ds vs
  | .dct ks ds, o => ∃ vs, o = .dK (ks.zip vs) ∧ ks.length = ds.length ∧ IsL K F ds vs
theorem RepM.mono {K : PySem.W.Frag} {F F' : Hp} (e : Same F F') : ∀ {m : MO} {o : HO}, RepM K F m o → RepM K F' m o
  | .lst ds, _, ⟨vs, e1, h⟩ => ⟨vs, e1, h.mono e⟩
  | .ins C fs ds, _, ⟨dx, vs, e1, l, h⟩ => ⟨dx, vs, e1, l, h.mono e⟩
  | .dct ks ds, _, ⟨vs, e1, l, h⟩ => ⟨vs, e1, l, h.mono e⟩
/-- the frozen heap lies in the heap (a dict may be locked) -/
def Sub (F H : Hp) : Prop := ∀ a o, F a = some o → H a = some o ∨ ∃ kvs ob, o = .dK kvs ∧ H a = some (.frz ob o)
structure Ok (K : PySem.W.Frag) (F : Hp) (M : Store) (H : Hp) : Prop where
  sub : Sub F H
  mem : ∀ a m, M a = some m → F a = none ∧ ∃ o, H a = some o ∧ RepM K F m o
structure Stp (F : Hp) (M : Store) (H : Hp) (F' : Hp) (M' : Store) (H' : Hp) : Prop where
  ext : Same F F'
  new : ∀ a o, F' a = some o → F a = some o ∨ H a = none ∨ M a ≠ none
  keep : ∀ a o, H a = some o → M a = none → H' a = some o
  dom : ∀ a, M a = none → H a ≠ none → M' a = none
  there : ∀ a, H a ≠ none → H' a ≠ none
section
variable {K : PySem.W.Frag} {F F1 F2 F' H H1 H2 H' : Hp} {M M1 M2 M' : Store}
theorem Stp.refl : Stp F M H F M H := ⟨Same.refl F, fun _ _ h => .inl h, fun _ _ h _ => h, fun _ h _ => h, fun _ h => h⟩
theorem Ok.lst (ok : Ok K F M H) {a : Addr} {vs : List V} (h : F a = some (.lst vs)) : H a = some (.lst vs) := by
  rcases ok.sub a _ h with e | ⟨_, _, e, _⟩
  · exact e
  · cases e
theorem Ok.ins (ok : Ok K F M H) {a C dx : Addr} {fs : List (Str × V)} (h : F a = some (.ins C dx fs)) : H a = some (.ins C dx fs) := by
  rcases ok.sub a _ h with e | ⟨_, _, e, _⟩
  · exact e
  · cases e
theorem Ok.fresh (ok : Ok K F M H) {p : Addr} (h : H p = none) : F p = none ∧ M p = none := by
  constructor
  · cases e : F p with
    | none => rfl
    | some o =>
      rcases ok.sub p o e with q | ⟨_, _, _, q⟩
      · rw [h] at q; cases q
      · rw [h] at q; cases q
  · cases e : M p with
    | none => rfl
    | some m =>
      obtain ⟨_, o, q, _⟩ := ok.mem p m e
      rw [h] at q; cases q
theorem same_new {p : Addr} {o : HO} (h : F p = none) : Same F (upd F p o) := fun b x e => by
  rw [upd_ne (ne_of_none e h)]; exact e
/-- a new frozen object -/
theorem Ok.new (ok : Ok K F M H) {p : Addr} {o : HO} (h : H p = none) : Ok K (upd F p o) M (upd H p o) ∧ Stp F M H (upd F p o) M (upd H p o) := by
  obtain ⟨hF, hM⟩ := ok.fresh h
  refine ⟨⟨fun a u e => ?_, fun a m e => ?_⟩, ⟨same_new hF, fun a u e => ?_, fun a u e _ => ?_, fun _ m _ => m, fun a n => ?_⟩⟩
  · by_cases q : a = p
    · subst q; rw [upd_same] at e ⊢; exact .inl e
    · rw [upd_ne q] at e ⊢; exact ok.sub a u e
  · have q : a ≠ p := fun z => by rw [z, hM] at e; cases e
    obtain ⟨h1, u, h2, h3⟩ := ok.mem a m e
    exact ⟨by rw [upd_ne q]; exact h1, u, by rw [upd_ne q]; exact h2, h3.mono (same_new hF)⟩
  · by_cases q : a = p
    · subst q; exact .inr (.inl h)
    · rw [upd_ne q] at e; exact .inl e
  · rw [upd_ne (ne_of_none e h)]; exact e
  · by_cases q : a = p
    · subst q; exact absurd h n
    · rw [upd_ne q]; exact n
/-- a new cell -/
theorem Ok.cell (ok : Ok K F M H) {p : Addr} {o : HO} {m : MO} (h : H p = none) (r : RepM K F m o) : Ok K F (mup M p m) (upd H p o) ∧ Stp F M H F (mup M p m) (upd H p o) := by
  obtain ⟨hF, hM⟩ := ok.fresh h
  refine ⟨⟨fun a u e => ?_, fun a n e => ?_⟩, ⟨Same.refl F, fun a u e => .inl e, fun a u e _ => ?_, fun a q n => ?_, fun a n => ?_⟩⟩
  · have q : a ≠ p := fun z => by rw [z, hF] at e; cases e
    rw [upd_ne q]; exact ok.sub a u e
  · by_cases q : a = p
    · subst q; rw [mup_same] at e; cases e
      exact ⟨hF, o, upd_same, r⟩
    · rw [mup_ne q] at e
      obtain ⟨h1, u, h2, h3⟩ := ok.mem a n e
      exact ⟨h1, u, by rw [upd_ne q]; exact h2, h3⟩
  · rw [upd_ne (ne_of_none e h)]; exact e
  · have z : a ≠ p := fun z => n (by rw [z]; exact h)
    rw [mup_ne z]; exact q
  · by_cases q : a = p
    · subst q; exact absurd h n
    · rw [upd_ne q]; exact n
/-- a cell written -/
theorem Ok.write (ok : Ok K F M H) {p : Addr} {o : HO} {m m0 : MO} (h : M p = some m0) (r : RepM K F m o) : Ok K F (mup M p m) (upd H p o) ∧ Stp F M H F (mup M p m) (upd H p o) := by
  obtain ⟨hF, o0, hH, _⟩ := ok.mem p m0 h
  refine ⟨⟨fun a u e => ?_, fun a n e => ?_⟩, ⟨Same.refl F, fun a u e => .inl e, fun a u e q => ?_, fun a q n => ?_, fun a n => ?_⟩⟩
  · have q : a ≠ p := fun z => by rw [z, hF] at e; cases e
    rw [upd_ne q]; exact ok.sub a u e
  · by_cases q : a = p
    · subst q; rw [mup_same] at e; cases e
      exact ⟨hF, o, upd_same, r⟩
    · rw [mup_ne q] at e
      obtain ⟨h1, u, h2, h3⟩ := ok.mem a n e
      exact ⟨h1, u, by rw [upd_ne q]; exact h2, h3⟩
  · have z : a ≠ p := fun z => by rw [z, h] at q; cases q
    rw [upd_ne z]; exact e
  · have z : a ≠ p := fun z => by rw [z, h] at q; cases q
    rw [mup_ne z]; exact q
  · by_cases q : a = p
    · subst q; rw [upd_same]; simp
    · rw [upd_ne q]; exact n
end
/-! ### slots -/
abbrev DS := List (Option D)
def IsS (K : PySem.W.Frag) (F : Hp) (Δ : DS) (σ : L2.St) : Prop := Δ.length = σ.length ∧ ∀ (i : Nat) d, Δ[i]? = some (some d) → ∃ v, σ[i]? = some (some v) ∧ Is K F d v
theorem IsS.set {K : PySem.W.Frag} {F : Hp} {Δ : DS} {σ : L2.St} (h : IsS K F Δ σ) {d : D} {v : V} (i : Nat) (r : Is K F d v) : IsS K F (Δ.set i (some d)) (σ.set i (some v)) := by
  refine ⟨by rw [List.length_set, List.length_set]; exact h.1, fun j e q => ?_⟩
  by_cases z : j = i
  · subst z
    have hj : j < Δ.length := by
      by_cases hj : j < Δ.length
      · exact hj
      · rw [List.getElem?_eq_none (by rw [List.length_set]; omega)] at q; cases q
    rw [List.getElem?_set_self hj] at q
    cases q
    exact ⟨v, List.getElem?_set_self (by rw [← h.1]; exact hj), r⟩
  · rw [List.getElem?_set_ne (Ne.symm z)] at q ⊢
    exact h.2 j e q
/-! ### the judgements -/
def Sem (X : Cx) (e : Expr) : TE := fun σ H Q => ∀ pins s, Inv X pins σ H s → wpAny (model X.prog X.w) X.A (eval e X.env) (EP X pins σ Q) X.xe s
section
variable {X : Cx} {e : Expr} {es : List Expr} {st : Stmt} {sts : List Stmt} {tg : Expr} {σ : L2.St} {H : Hp}
end
abbrev DK := D → Store → Prop
def Post (K : PySem.W.Frag) (F : Hp) (M : Store) (H : Hp) (k : DK) (Q : VK) : Prop := ∀ d M' F' H' v, k d M' → Stp F M H F' M' H' → Ok K F' M' H' → Is K F' d v → Q v H'
def EvD (X : Cx) (e : Expr) (Δ : DS) (M : Store) (k : DK) : Prop := ∀ F H σ (Q : VK), IsS X.K F Δ σ → Ok X.K F M H → Post X.K F M H k Q → Sem X e σ H Q
abbrev AK := List D → Store → Prop
end DL
end
section
set_option Elab.async false
set_option linter.all false
set_option maxRecDepth 100000
namespace DL
open PySem L2
section
variable {X : Cx} {a b e : Expr} {es rest : List Expr} {Δ : DS} {M : Store} {k : DK} {kb : BK} {pos : Pos}
/-! ### tests -/
/-! ### argument lists, displays -/
/-- a fresh list: nobody else knows it -/
def PostL (K : PySem.W.Frag) (F : Hp) (M : Store) (H : Hp) (k : AK) (Q : VK) : Prop := ∀ ds M' F' H' q vs, k ds M' → Stp F M H F' M' H' → Ok K F' M' H' → F' q = none → M' q = none → H q = none → H' q = some (.lst vs) → IsL K F' ds vs → Q (.ref q) H'
def EvL (X : Cx) (e : Expr) (Δ : DS) (M : Store) (k : AK) : Prop := ∀ F H σ (Q : VK), IsS X.K F Δ σ → Ok X.K F M H → PostL X.K F M H k Q → Sem X e σ H Q
theorem EvL.cell (h : EvL X e Δ M fun ds M' => ∀ p, M' p = none → k (.cell p) (mup M' p (.lst ds))) : EvD X e Δ M k := fun F H σ Q hs ok post => h F H σ Q hs ok fun ds M' F' H' q vs hk st ok' f m n hq i => by
  refine post (.cell q) (mup M' q (.lst ds)) F' H' (.ref q) (hk q m) ⟨st.ext, st.new, st.keep, fun x e z => ?_, st.there⟩ ⟨ok'.sub, fun x m' e => ?_⟩ (is_cell.2 rfl)
  · have z' : x ≠ q := fun w => z (by rw [w]; exact n)
    rw [mup_ne z']; exact st.dom x e z
  · by_cases z : x = q
    · subst z; rw [mup_same] at e; cases e; exact ⟨f, _, hq, vs, rfl, i⟩
    · rw [mup_ne z] at e; exact ok'.mem x m' e
/-! ### items and slices -/
/-! ### built-ins by name -/
end
end DL
end
section
set_option Elab.async false
set_option linter.all false
set_option maxRecDepth 100000
namespace DL
open PySem L2
section
variable {X : Cx} {a b e e2 o : Expr} {es rest : List Expr} {Δ : DS} {M : Store} {k : DK} {kb : BK} {ka : AK} {p pos apos : Pos} {x : Str}
/-! ### cells: append, pop, x[i] = v -/
theorem Post.cell {K : PySem.W.Frag} {F : Hp} {H : Hp} {Q : VK} {d : D} {v : V} (p : Post K F M H k Q) (ok : Ok K F M H) {q : Addr} {m : MO} (hm : M q = some m) {ds : List D} {vs : List V} (i : IsL K F ds vs) (h : k d (mup M q (.lst ds))) (iv : Is K F d v) : Q v (upd H q (.lst vs)) :=
  let w := ok.write (m := .lst ds) (o := .lst vs) hm ⟨vs, rfl, i⟩
  p d _ F _ v h w.2 w.1 iv
/-! ### dicts -/
/-! ### iterables -/
variable {tg : Expr}
variable {elts : List Expr} {kk : Nat} {tpos : Pos}
end
end DL
end
section
set_option Elab.async false
set_option linter.all false
set_option maxRecDepth 100000
set_option maxHeartbeats 4000000
/-! sets of ints and texts: set(xs), sorted of it -/
namespace DSet
open PySem PySem.Spec PyProof.Rows L2
instance memKey (c : Key) : (cs : List Key) → Decidable (c ∈ cs)
  | [] => .isFalse (fun h => nomatch h)
  | d :: cs => if h : c = d then .isTrue (h ▸ List.mem_cons_self) else
    match memKey c cs with
    | .isTrue q => .isTrue (List.mem_cons_of_mem _ q)
    | .isFalse q => .isFalse (fun z => (List.mem_cons.mp z).elim h q)
section
variable {P : Program} {w : World} {h h' : Heap} {a : Addr} {S : Key → Bool} {n : Nat}
end
section
variable {P : Program} {w : World} {A : Around} {E : Value → Shared → Prop} {s : Shared} {a : Addr} {S : Key → Bool} {n : Nat}
end
end DSet
end
section
set_option Elab.async false
set_option linter.all false
set_option maxRecDepth 100000
/-! DP: programs of our own over data; draws are free -/
namespace DL
open PySem L2
section
variable {α β : Type} {b : Bool}
end
/-! ### names of classes and of the urn -/
mutual
def rn (ρ : Nat → Addr) : D → D
  | .non => .non | .bl b => .bl b | .int i => .int i | .str x => .str x | .ty n => .ty n
  | .tup ds => .tup (rnL ρ ds) | .lst ds => .lst (rnL ρ ds) | .frl ds => .frl (rnL ρ ds)
  | .dct ks ds => .dct ks (rnL ρ ds) | .ins C fs ds => .ins (ρ C) fs (rnL ρ ds) | .cell a => .cell (ρ a)
def rnL (ρ : Nat → Addr) : List D → List D
  | [] => []
  | d :: ds => rn ρ d :: rnL ρ ds
end
section
variable {ρ : Nat → Addr}
theorem rnL_map : ∀ ds : List D, rnL ρ ds = ds.map (rn ρ)
  | [] => by unfold rnL; rfl
  | d :: ds => by unfold rnL; rw [rnL_map ds]; rfl
theorem rnL_len (ds : List D) : (rnL ρ ds).length = ds.length := by rw [rnL_map, List.length_map]
end
def rnM (ρ : Nat → Addr) : MO → MO
  | .lst ds => .lst (rnL ρ ds) | .ins C fs ds => .ins (ρ C) fs (rnL ρ ds) | .dct ks ds => .dct ks (rnL ρ ds)
/-! ### slots -/
inductive Sl where
  | e | v (d : D) | o (m : MO) | w (d : D)
/-- a view: an owned list is read -/
def Vw (ρ : Nat → Addr) (b : Bool) (M : Store) (d dr : D) : Prop := dr = rn ρ d ∨ ∃ q ds, dr = .cell q ∧ d = .lst ds ∧ M q = some (.lst (rnL ρ ds)) ∧ (b = true → q ≠ ρ 0)
structure Rel (ρ : Nat → Addr) (an : Addr) (b : Bool) (M0 : Store) (Δ : List Sl) (Δr : DS) (M : Store) : Prop where
  len : Δ.length = Δr.length
  v : ∀ (i : Nat) (d : D), Δ[i]? = some (Sl.v d) → Δr[i]? = some (some (rn ρ d))
  o : ∀ (i : Nat) (m : MO), Δ[i]? = some (Sl.o m) → ∃ q, Δr[i]? = some (some (D.cell q)) ∧ M q = some (rnM ρ m) ∧ M0 q = none ∧ (b = true → q ≠ ρ 0) ∧ (∀ C fs ds, m = .ins C fs ds → q = an)
  inj : ∀ (i j : Nat) (m m' : MO) (q : Addr), i ≠ j → Δ[i]? = some (Sl.o m) → Δ[j]? = some (Sl.o m') → Δr[i]? = some (some (D.cell q)) → Δr[j]? ≠ some (some (D.cell q))
  w : ∀ (i : Nat) (d : D), Δ[i]? = some (Sl.w d) → ∃ dr, Δr[i]? = some (some dr) ∧ Vw ρ b M0 d dr
section
variable {γ : Nat → Addr} {b : Bool} {u : Addr × Addr} {M0 M M' M2 : Store} {Δ : List Sl} {Δr : DS} {n n' : Nat}
end
/-! ### judgements -/
section
variable {γ : Nat → Addr} {X : Cx} {a e e2 : Expr} {es : List Expr} {pos p : Pos} {x : Str}
/-! ### leaves -/
/-! ### one, two operands -/
variable {c : Expr}
end
end DL
end
section
set_option Elab.async false
set_option linter.all false
set_option maxRecDepth 100000
namespace DL
open PySem L2 PyProof.Rows
/-! ### sorting -/
section
variable {γ : Nat → Addr} {X : Cx} {a c e e2 tg : Expr} {es rest : List Expr} {pos p : Pos} {x : Str} {op : CmpOp} {s t : SE}
/-! ### built-ins -/
/-! ### calls -/
/-- arguments; those with true are only looked at -/
def VwL (ρ : Nat → Addr) (b : Bool) (M : Store) : List Bool → List D → List D → Prop
  | [], ds, drs => drs = rnL ρ ds
  | true :: fl, d :: ds, dr :: drs => Vw ρ b M d dr ∧ VwL ρ b M fl ds drs
  | false :: fl, d :: ds, dr :: drs => dr = rn ρ d ∧ VwL ρ b M fl ds drs
  | _ :: _, _, _ => False
theorem VwL.len {ρ : Nat → Addr} {b : Bool} {M : Store} : ∀ {fl : List Bool} {ds drs : List D}, VwL ρ b M fl ds drs → drs.length = ds.length
  | [], ds, drs, h => by unfold VwL at h; rw [h, rnL_len]
  | true :: fl, d :: ds, dr :: drs, h => by unfold VwL at h; rw [List.length_cons, List.length_cons, VwL.len h.2]
  | false :: fl, d :: ds, dr :: drs, h => by unfold VwL at h; rw [List.length_cons, List.length_cons, VwL.len h.2]
  | true :: _, [], _, h => by unfold VwL at h; exact h.elim
  | false :: _, [], _, h => by unfold VwL at h; exact h.elim
  | true :: _, _ :: _, [], h => by unfold VwL at h; exact h.elim
  | false :: _, _ :: _, [], h => by unfold VwL at h; exact h.elim
theorem VwL.of {ρ : Nat → Addr} {b : Bool} {M : Store} : ∀ {fl : List Bool} {ds : List D}, fl.length ≤ ds.length → VwL ρ b M fl ds (rnL ρ ds)
  | [], ds, _ => by unfold VwL; rfl
  | true :: fl, d :: ds, h => by unfold rnL VwL; exact ⟨.inl rfl, VwL.of (by simpa using h)⟩
  | false :: fl, d :: ds, h => by unfold rnL VwL; exact ⟨rfl, VwL.of (by simpa using h)⟩
  | _ :: _, [], h => by simp at h
/-! x == y, the first a view -/
end
end DL
end
section
set_option Elab.async false
set_option linter.all false
set_option maxRecDepth 100000
/-! DL: static methods; tuples of the module's top -/
namespace DL
open PySem L2
/-- C.m is a staticmethod: its record at p, its def at g -/
structure SMet (K : PySem.W.Frag) (C : Addr) (mc : Value) (m : Str) (p g : Addr) : Prop where
  at_ : PySem.W.findCls K (.ref C) mc m = some (.get (.builtin "staticmethod.__get__") (.ref p) .none (.ref C))
  rc : ∃ rest, PySem.W.recIn K p "staticmethod" = some (.ref g :: rest)
section
variable {X : Cx} {pins : List (Addr × Obj)} {σ : L2.St} {H : Hp} {s : Shared} {C q g : Addr} {mc : Value} {m : Str} {A : Around} {E : Value → Shared → Prop}
end
section
variable {X : Cx} {k : Nat} {C q g : Addr} {fd : FuncData} {ps : List Str} {mc : Value} {sp : Sp} {E : XK} {m : Str} {e o : Expr} {es : List Expr} {ta : TE} {t : TA} {pos apos : Pos} {dvs : List V} {ds : List Value} {pl : PySem.Sem Bool}
end
section
variable {X : Cx} {e o : Expr} {es : List Expr} {Δ : DS} {M : Store} {k : DK} {p pos apos : Pos} {x m : Str} {C : Addr} {pl : PySem.Sem Bool}
end
end DL
end
section
set_option Elab.async false
set_option linter.all false
set_option maxRecDepth 100000
set_option maxHeartbeats 4000000
/-! sets of tuples of texts and ints -/
namespace DSet
open PySem PySem.Spec PyProof.Rows L2
/-- the tuple at b has just these keys -/
abbrev TK2 (P : Program) (w : World) (h : Heap) (k : List Key) (b : Addr) : Prop := IsTupleKey (mixKind P w) h k b
abbrev hx2 (P : Program) (w : World) (k : List Key) : Int := tupleKeyHash (mixKind P w) k
section
variable {P : Program} {w : World} {A : Around} {E : Value → Shared → Prop} {s : Shared}
/-- rows of the table: hash and tuple -/
def rw2 (P : Program) (w : World) (L : List (Addr × List Key)) : List (Int × Value) := L.map fun p => (hx2 P w p.2, Value.ref p.1)
/-- the set at a has just the tuples of L -/
structure ST2 (P : Program) (w : World) (h : Heap) (a : Addr) (L : List (Addr × List Key)) (es : Array (Int × Value)) (ep : Nat) (t : SetTable) : Prop where
  at_ : ∃ ob, h.get? a = some ob ∧ ob.ExactSet ∧ ob.data = .set es ep t
  row : es.toList = rw2 P w L
  tb : TabOk t (L.map fun p => hx2 P w p.2)
  dis : (L.map (·.2)).Nodup
  tu : ∀ p ∈ L, TK2 P w h p.2 p.1
  ld : w.params.followText "set-order" = true ∨ t.led = true
  rm : L.length * 5 < t.mask * 3
  lt : L.length < 64
variable {a : Addr} {L : List (Addr × List Key)} {es : Array (Int × Value)} {ep : Nat} {t : SetTable}
end
end DSet
end
section
set_option Elab.async false
set_option linter.all false
set_option maxRecDepth 100000
/-! the head: static methods, constant tuples, what is neither list nor tuple -/
namespace DL
open PySem PySem.W PySem.Calls PyProof.Rows L2 He He5
/-! what the head leaves, by numbers of places -/
def asR (n : Nat) : List Addr := mainGlobals :: cStatics :: (List.range n).reverse
def obsR (n : Nat) (fa : List (Frag → Bool)) (fn : List DefA) (g : Addr → Option Obj) : He.AlD := obsF fa fn (frG g (asR n))
def hookR (n : Nat) (fa : List (Frag → Bool)) (fn : List DefA) : PySem.W.Hook where
  α := He.AlD
  obs := fun s => obsR n fa fn s.heap.get?
  val := fun _ => valF fn
  says := fun _ h => ∃ K : Frag, K.In h ∧ SaysF fa fn K
  of := fun _ _ e => ⟨_, frG_in, e⟩
  keeps := fun _ _ _ ⟨K, hK, c⟩ k => ⟨K, Frag.In.keeps hK k, c⟩
theorem obsR_eq {n : Nat} {fa : List (Frag → Bool)} {fn : List DefA} {g : Addr → Option Obj} {s : Shared} (h : ∀ a, g a = s.heap.get? a) : obsR n fa fn g = (hookR n fa fn).obs s := by
  have e : g = s.heap.get? := funext h
  rw [e] <;> rfl
/-! constant tuples -/
end DL
end
section
set_option Elab.async false
set_option linter.all false
set_option maxRecDepth 100000
namespace Q75
open PySem L2 DL
def top (i : Nat) : Stmt := PySem.Challenge.pw_deepcuts_k75_whole_for_all_that_can_be_d.main.body.getD i (.Pass ⟨0, 0, 0, 0⟩)
abbrev s_tupled : Stmt := top 1
abbrev s_often_above : Stmt := top 3
abbrev s_more_above : Stmt := top 4
abbrev s_path_tells : Stmt := top 5
abbrev s__law_cells : Stmt := top 9
abbrev s__law_of : Stmt := top 10
abbrev s__law_same : Stmt := top 11
abbrev s__law_trail : Stmt := top 12
abbrev s__law_ends : Stmt := top 13
abbrev s__law_parts : Stmt := top 16
abbrev s__law_lots : Stmt := top 15
abbrev s__law_states : Stmt := top 14
abbrev s__law_due : Stmt := top 17
abbrev s__law_by_hand_right : Stmt := top 18
abbrev s__law_right : Stmt := top 19
abbrev s_law : Stmt := top 20
abbrev s__law_take : Stmt := top 8
abbrev s__law_box : Stmt := top 7
section
variable {P : Program} {w : World} {K : PySem.W.Frag} {mg : Str → Option Value} {base : Heap} {f : Addr} {fd : FuncData} {dvs : List V}
set_option maxHeartbeats 4000000
end
end Q75
end
section
set_option Elab.async false
set_option linter.all false
set_option maxRecDepth 100000
set_option maxHeartbeats 0
namespace Q75
open PySem PySem.W PySem.Calls PyProof.Rows L2 DL He He5
def dF (x : PySem.Str) (st : Stmt) : DefA := ⟨gA x, x, x, defArgs st, defBody st, defScope st, [], []⟩
def fn : List DefA := [dF "tupled" s_tupled,
  dF "often_above" s_often_above,
  dF "more_above" s_more_above,
  dF "path_tells" s_path_tells,
  dF "_law_box" s__law_box,
  dF "_law_take" s__law_take,
  dF "_law_cells" s__law_cells,
  dF "_law_of" s__law_of,
  dF "_law_same" s__law_same,
  dF "_law_trail" s__law_trail,
  dF "_law_ends" s__law_ends,
  dF "_law_states" s__law_states,
  dF "_law_lots" s__law_lots,
  dF "_law_parts" s__law_parts,
  dF "_law_due" s__law_due,
  dF "_law_by_hand_right" s__law_by_hand_right,
  dF "_law_right" s__law_right,
  dF "law" s_law]
def fa : List (Frag → Bool) := [tFa (.glo "tupled"),
  tFa (.glo "often_above"),
  tFa (.glo "more_above"),
  tFa (.glo "path_tells"),
  tFa (.glo "_law_box"),
  tFa (.glo "_law_take"),
  tFa (.glo "_law_cells"),
  tFa (.glo "_law_of"),
  tFa (.glo "_law_same"),
  tFa (.glo "_law_trail"),
  tFa (.glo "_law_ends"),
  tFa (.glo "_law_states"),
  tFa (.glo "_law_lots"),
  tFa (.glo "_law_parts"),
  tFa (.glo "_law_due"),
  tFa (.glo "_law_by_hand_right"),
  tFa (.glo "_law_right"),
  tFa (.glo "law"),
  tFa (.free "abs"),
  tFa (.free "all"),
  tFa (.free "any"),
  tFa (.free "bool"),
  tFa (.free "dict"),
  tFa (.free "enumerate"),
  tFa (.free "int"),
  tFa (.free "isinstance"),
  tFa (.free "len"),
  tFa (.free "list"),
  tFa (.free "max"),
  tFa (.free "range"),
  tFa (.free "sorted"),
  tFa (.free "str"),
  tFa (.free "sum"),
  tFa (.free "tuple"),
  tFa (.free "zip")]
abbrev R : PySem.W.OpenRow := PySem.W.OpenLaw.row PySem.Challenge.rw_deepcuts_k75_whole_for_all_that_can_be_d
abbrev hk : PySem.W.Hook := hookR 1100 fa fn
def ob (s : PySem.W.SharedT) : He.AlD := obsR 1100 fa fn (HandSHeadRun.getT s)
theorem ob_eq (s : PySem.W.SharedT) : ob s = hk.obs s.abs := obsR_eq (HandSHeadRun.getT_eq s)
def loose_0 : List PySem.Str := ["__name__", "tupled", "often_above", "more_above", "path_tells", "_law_box", "_law_take", "_law_cells", "_law_of", "_law_same", "_law_trail", "_law_ends", "_law_states", "_law_lots", "_law_parts"]
def loose_1 : List PySem.Str := ["_law_due", "_law_by_hand_right", "_law_right"]
def loose : List PySem.Str := loose_0 ++ loose_1
theorem run (w : World) : HandSHeadRun.RunEq R (PySem.W.view R.prog [20]) hk ob 8000 loose w := by
  intro os
  kernel_rfl
end Q75
end
section
set_option Elab.async false
set_option linter.all false
set_option maxRecDepth 100000
/-! the head: any tests of the written part, and its defs -/
namespace DL
open PySem PySem.W PySem.Calls PyProof.Rows He He5
section
variable {fa : List (Frag → Bool)} {fn : List DefA} {K : Frag}
theorem SaysF.fact (c : SaysF fa fn K) (i : Nat) {f : Frag → Bool} (h : fa[i]? = some f := by rfl) : f K = true := by
  have c1 := (ba (show ((fa.all fun f => f K) && fn.all fun d => d.ok K) = true from congrArg (fun z : He.AlD => z.1) c)).1
  exact List.all_eq_true.mp c1 f (List.mem_of_getElem? h)
theorem SaysF.def_ (c : SaysF fa fn K) (i : Nat) {d : DefA} (h : fn[i]? = some d := by rfl) : ∃ fd, L2.FunD K d.name d.qual d.params d.body d.scope (d.dvs K) (d.kws K) (d.at_ K) fd := by
  have c2 := (ba (show ((fa.all fun f => f K) && fn.all fun d => d.ok K) = true from congrArg (fun z : He.AlD => z.1) c)).2
  have e : fn.map (fun d => fnA K (d.at_ K)) = fn.map DefA.val := congrArg (fun z : He.AlD => z.2) c
  have e2 : (fn.map fun d => fnA K (d.at_ K))[i]? = (fn.map DefA.val)[i]? := by rw [e]
  rw [List.getElem?_map, List.getElem?_map, h] at e2
  exact DefA.funD (Option.some.inj e2) (List.all_eq_true.mp c2 d (List.mem_of_getElem? h))
end
/-! ### addresses -/
/-! ### tests -/
end DL
end
section
set_option Elab.async false
set_option linter.all false
set_option maxRecDepth 100000
/-! tuples of which the whole object is known (no dict of attributes): dict(t) asks for it -/
namespace DL
open PySem PySem.Spec PyProof.Rows L2
/-- what a new bare tuple is good for -/
def NewT (H : L2.Hp) (xs : List V) (Q : VK) : Prop := ∀ (a : Addr) (ob : Obj), H a = none → ob.dict = none → Q (.ref a) (upd H a (.frz ob (.tup xs)))
section
variable {X : Cx} {pn : List (Addr × Obj)} {σ : L2.St} {H : Hp} {s : Shared} {g : Heap} {xs : List V} {us : List Value} {Q : VK}
theorem ok_bare {a : Addr} {H' : Hp} {arr : Array Value} (e : g.get? a = some { cls := .type "tuple", data := .seq arr }) (r : Vals xs arr.toList) (hz : xs.length ≤ sizeLine) : ObjOk X.prog X.w H' g a (.frz { cls := .type "tuple", data := .seq arr } (.tup xs)) :=
  ⟨e, hz, arr.toList, r, _, e, rfl, 0, rfl⟩
/-- the heap goes on to g, and one tuple is pushed -/
theorem bare_push {t : Nat} (I : Inv X pn σ H s) (k : ∀ b u, s.heap.get? b = some u → g.get? b = some u) (le : s.heap.objs.size ≤ g.objs.size) (r : Vals xs us) (hz : xs.length ≤ sizeLine) (q : NewT H xs Q) :
    EP X pn σ Q (.ref g.objs.size) { s with heap := g.push (tObj us), toks := t } :=
  ⟨.ref g.objs.size, upd H g.objs.size (.frz (tObj us) (.tup xs)), I.laid (fun b u e => Heap.get?_push_of_some _ (k b u e)) le (ok_bare (Heap.get?_push_size _ rfl) (by simpa using r) hz), rfl, q _ _ (I.hok.fresh le) rfl⟩
end
section
variable {X : Cx} {es : List Expr} {pos : Pos} {t : TA}
def tTupB (t : TA) : TE := fun (σ : L2.St) H Q => t σ H fun xs H1 => xs.length ≤ sizeLine ∧ NewT H1 xs Q
theorem pe_tupB {x1} (h : PA X es t) : PE X (.Tuple es x1 pos) (tTupB t) :=
  ⟨fun pn s σ H Q I q => wpAny_Tuple_spliced (thn (h.run pos pn s σ H _ I q) fun us s1 ⟨xs, H1, I1, r, z, nw⟩ => ⟨r.length ▸ z, bare_push (t := s1.toks) I1 (fun _ _ e => e) (Nat.le_refl _) r z nw⟩)⟩
theorem call_tupleB : CallR X (.type "tuple") (fun xs H Q => ∃ p ys, xs = [.ref p] ∧ ((SqL X.K H p ys ∧ NewT H ys Q) ∨ (SqT X.K H p ys ∧ Q (.ref p) H))) := fun pn s σ H xs us Q I r ⟨p, ys, e, h⟩ => by
  subst e
  obtain ⟨u, eu, ru⟩ := vals1 r
  subst eu
  cases ru
  cases h with
  | inl h =>
    obtain ⟨ws, rw', pl, z⟩ := I.list h.1
    have lw := rw'.length
    exact call_tuple_list pl.isList (fun g k => bare_push (us := ws) (t := s.toks) (s := { s with heap := g }) (g := g) (I.kept (t' := s.toks) k) (fun _ _ e => e) (Nat.le_refl _) rw' z h.2) (by simp only [List.size_toArray]; omega)
  | inr h =>
    obtain ⟨ws, rw', pl, z⟩ := I.tuple h.1
    exact call_tuple_same pl ⟨.ref p, H, I, rfl, h.2⟩
def rSlB (K : PySem.W.Frag) : V → Option Int → Option Int → L2.Hp → VK → Prop := fun x lo hi H Q => ∃ a xs, x = .ref a ∧ SqT K H a xs ∧
  if HT.sIx xs.length 0 lo = 0 ∧ HT.sIx xs.length xs.length hi = xs.length then Q (.ref a) H else NewT H (cutV xs lo hi) Q
theorem sl_tupB : SlR X (rSlB X.K) := fun pn s σ H x v vl vu lo hi sl Q I rx hs pl pu ⟨a, xs, ex, sq, q⟩ => by
  subst ex
  cases rx
  obtain ⟨ws, r, ht, hz⟩ := I.tuple sq
  have ln : ws.toArray.size = xs.length := by simpa using r.length.symm
  refine ⟨_, _, PyProof.Rows.slot_tuple_getitem.lookup, ht.typeIs, ?_⟩
  split at q
  · rename_i c
    exact getItem_tuple_whole ht hs pl pu (by rw [ln]; exact c) ⟨.ref a, H, I, rfl, q⟩
  · rename_i c
    refine HT.getItem_tuple_cut ht hs pl pu (by rw [ln]; exact c) ?_ (by rw [ln]; exact hz)
    rw [ln]
    exact bare_push (t := s.toks) I (fun _ _ e => e) (Nat.le_refl _) ((r.drop _).take _) (Nat.le_trans (cutV_length xs lo hi) hz) q
def rCatB (K : PySem.W.Frag) : R2 := fun x y H Q => ∃ a b xs ys, x = .ref a ∧ y = .ref b ∧ SqT K H a xs ∧ SqT K H b ys ∧ xs.length + ys.length ≤ sizeLine ∧
  if xs = [] then Q (.ref b) H else if ys = [] then Q (.ref a) H else NewT H (xs ++ ys) Q
theorem op_catB : OpR X (binaryOp .Add) (rCatB X.K) := fun pn s σ H x y v u Q I rx ry ⟨a, b, xs, ys, ex, ey, sa, sb, z, q⟩ => by
  subst ex ey
  cases rx
  cases ry
  obtain ⟨vs, r1, p1, _⟩ := I.tuple sa
  obtain ⟨ws, r2, p2, _⟩ := I.tuple sb
  have l1 := r1.length
  have l2 := r2.length
  split at q
  · rename_i c
    subst c
    cases r1
    exact cat_tup0 p1 p2 ⟨.ref b, H, I, rfl, q⟩
  · rename_i c
    refine HT.cat_tup p1 p2 (fun e => c (r1.nil_iff.mp e)) (fun e => ?_) (fun e => ?_) (by omega)
    · rw [if_pos (r2.nil_iff.mp e)] at q
      exact ⟨.ref a, H, I, rfl, q⟩
    · rw [if_neg fun e2 => e (r2.nil_iff.mpr e2)] at q
      exact bare_push (t := s.toks) I (fun _ _ e => e) (Nat.le_refl _) (r1.append r2) (by rw [List.length_append]; exact z) q
end
end DL
end
section
set_option Elab.async false
set_option linter.all false
set_option maxRecDepth 100000
/-! enumerate and zip in loops: each pair is bare -/
namespace DL
open PySem PySem.Spec PyProof.Rows L2
/-- as a walk J, but what it yields is another thing -/
def ItB (J : It) (y : Nat → Hp → List V → Prop) : It := ⟨J.go, fun i H v H' => ∃ T ob xs, v = .ref T ∧ H T = none ∧ Obj.dict ob = none ∧ H' = upd H T (.frz ob (.tup xs)) ∧ y i H xs, J.stop⟩
section
variable {P : Program} {w : World} {K : PySem.W.Frag} {tg : Expr} {J : It} {fp : List Addr} {it : Addr} {tn : Nat → Heap → Prop} {y : Nat → Hp → List V → Prop}
theorem turn_bare (T : Turn P w K tg J fp it tn) (item : ∀ (X : Cx), X.prog = P → X.w = w → X.K = K → X.calm = true → ∀ (i : Nat) (pn : List (Addr × Obj)) (s : Shared) (σ : L2.St) (H : Hp) (E : Value → Shared → Prop), Inv X pn σ H s → tn i s.heap → J.go i H →
    wpAny (model P w) X.A (pyNext (.ref it)) (fun r s1 => r = some (.ref s.heap.objs.size) ∧
      wpAny (model P w) X.A (letOwnedTupleGo tg (.ref it) (.ref s.heap.objs.size)) (fun _ s2 => ∃ h' t us xs, s2 = { s with heap := h', toks := t } ∧ h'.get? s.heap.objs.size = some (tObj us) ∧ Vals xs us ∧ xs.length ≤ sizeLine ∧ y i H xs ∧
        (∀ c o, c ∉ fp → s.heap.get? c = some o → h'.get? c = some o) ∧ tn (i + 1) h') E s1) E s) : Turn P w K tg (ItB J y) fp it tn where
  mem := T.mem
  obj := T.obj
  keep := T.keep
  self := T.self
  done := T.done
  item := fun X e1 e2 e3 hc i pn s σ H E I fpk tni go => by
    refine thn (item X e1 e2 e3 hc i pn s σ H E I tni go) fun r s1 ⟨er, h1⟩ => ⟨_, er, thn h1 fun _ s2 ⟨h', t, us, xs, es, ho, rv, hz, hy, k, tn'⟩ => ?_⟩
    subst es e1 e2 e3
    have nw := ok_bare (X := X) (H' := upd H s.heap.objs.size (.frz (tObj us) (.tup xs))) ho (by simpa using rv) hz
    refine ⟨.ref s.heap.objs.size, _, I.turnedNew (t' := t) (ch := fp) k fpk (Nat.le_refl _) nw, rfl, ⟨_, tObj us, xs, rfl, I.hok.fresh (Nat.le_refl _), rfl, rfl, hy⟩, tn', fun b hb => ?_⟩
    obtain ⟨o, hob, _⟩ := T.obj i _ tni b hb
    rw [upd_ne (Nat.ne_of_lt (Heap.lt_size hob))]
    exact (fpk b hb).1
end
section
variable {P : Program} {w : World} {K : PySem.W.Frag} {elts : List Expr} {kk : Nat} {tpos : Pos}
abbrev yEn (S : Hp → List V → Prop) (i : Nat) (H : Hp) (xs : List V) : Prop := ∃ x, xs = [.int (i : Nat), x] ∧ ∀ ys, S H ys → ys[i]? = some x
abbrev yZi (S S' : Hp → List V → Prop) (i : Nat) (H : Hp) (xs : List V) : Prop := ∃ x y, xs = [x, y] ∧ (∀ ys, S H ys → ys[i]? = some x) ∧ ∀ ys, S' H ys → ys[i]? = some y
theorem two_le : ∀ x y : V, [x, y].length ≤ sizeLine := fun _ _ => by show 2 ≤ sizeLine; decide
def IteB (K : PySem.W.Frag) (a : Addr) : It := ItB (Ite K a) (yEn fun H => SqL K H a)
theorem turn_enumB (a e it : Addr) : Turn P w K (.Tuple elts kk tpos) (IteB K a) [e, it] e (fun i h => (∃ old, IsEnum h e it ((i : Nat) : Int) old) ∧ h.IsListIter it a i ∧ e ≠ it) :=
  turn_bare (turn_enum a e it) fun X e1 e2 e3 hc i pn s σ H E I ⟨⟨old, en⟩, ln, ne⟩ ⟨xs, x, sq, gx⟩ => by
    subst e1 e2 e3
    obtain ⟨us, rv, pl, _⟩ := I.list sq
    obtain ⟨u, gu, ru⟩ := rv.get gx
    have lt := Heap.lt_size en
    refine wpAny_pyNext_enum_item en ln pl.isList (x := u) (by simpa using gu) ne fun h1 out ln1 ho _ k => ⟨rfl, wpAny_letOwnedTupleGo_enum (s := { s with heap := h1, toks := s.toks + 1 }) out fun h2 en2 sam => ?_⟩
    refine ⟨h2, s.toks + 1, [.int i s.toks, u], [.int (i : Nat), x], rfl, (sam.2 _ (Nat.ne_of_gt lt)).trans ho, .cons ⟨_, rfl⟩ (.cons ru .nil), two_le _ _, ⟨x, rfl, fun ys sy => by rw [I.list_inj sy sq]; exact gx⟩, fun c o nc g => ?_, ⟨u, ?_⟩, ln1.at fun o q => (sam.2 it (Ne.symm ne)).trans q, ne⟩
    · simp only [List.mem_cons, List.not_mem_nil, or_false, not_or] at nc
      exact (sam.2 c nc.1).trans (k c o nc.1 nc.2 g)
    · rw [Int.natCast_succ]; exact en2
def ItzB (K : PySem.W.Frag) (a b : Addr) : It := ItB (Itz K a b) (yZi (fun H => SqL K H a) fun H => SqL K H b)
theorem turn_zipB {a b z TI TO i1 i2 : Addr} (D : ZipApart z TI TO i1 i2 a b) : Turn P w K (.Tuple elts kk tpos) (ItzB K a b) [z, TI, TO, i1, i2] z (fun i h => IsZip h z TI TO .none ∧ IsPair h TI (.ref i1) (.ref i2) ∧ (∃ x y, IsPair h TO x y) ∧ h.IsListIter i1 a i ∧ h.IsListIter i2 b i) :=
  turn_bare (turn_zip D) fun X e1 e2 e3 hc i pn s σ H E I ⟨zz, pI, ⟨_, _, pO⟩, l1, l2⟩ ⟨xs, ys, x, y, sx, sy, gx, gy⟩ => by
    subst e1 e2 e3
    obtain ⟨us, rv, pl, _⟩ := I.list sx
    obtain ⟨ws, rw', pl', _⟩ := I.list sy
    obtain ⟨u, gu, ru⟩ := rv.get gx
    obtain ⟨v, gv, rv'⟩ := rw'.get gy
    have lt := Heap.lt_size zz
    refine wpAny_pyNext_zip_item D zz pI pO l1 l2 pl.isList pl'.isList (x := u) (y := v) (by simpa using gu) (by simpa using gv) fun h1 z1 o1 m1 m2 ho _ k => ⟨rfl, wpAny_letOwnedTupleGo_zip (s := { s with heap := h1 }) z1 fun h2 z2 sam => ?_⟩
    refine ⟨h2, s.toks, [u, v], [x, y], rfl, (sam.2 _ (Nat.ne_of_gt lt)).trans ho, .cons ru (.cons rv' .nil), two_le _ _, ⟨x, y, rfl, fun l q => by rw [I.list_inj q sx]; exact gx, fun l q => by rw [I.list_inj q sy]; exact gy⟩, fun c o nc g => ?_, z2, ?_, ⟨u, v, ?_⟩, ?_, ?_⟩
    · simp only [List.mem_cons, List.not_mem_nil, or_false, not_or] at nc
      exact (sam.2 c nc.1).trans (k c o nc.1 nc.2.2.1 nc.2.2.2.1 nc.2.2.2.2 g)
    · exact (sam.2 _ D.TIz).trans (k _ _ D.TIz D.TITO D.TIi1 D.TIi2 pI)
    · exact (sam.2 _ D.TOz).trans o1
    · exact m1.at fun o q => (sam.2 _ D.i1z).trans q
    · exact m2.at fun o q => (sam.2 _ D.i2z).trans q
def ItzTB (K : PySem.W.Frag) (a b : Addr) : It := ItB (RZ.ItzT K a b) (yZi (fun H => SqT K H a) fun H => SqT K H b)
theorem turn_zipTB {a b z TI TO i1 i2 : Addr} (D : ZipApart z TI TO i1 i2 a b) : Turn P w K (.Tuple elts kk tpos) (ItzTB K a b) [z, TI, TO, i1, i2] z (fun i h => IsZip h z TI TO .none ∧ IsPair h TI (.ref i1) (.ref i2) ∧ (∃ x y, IsPair h TO x y) ∧ h.IsTupleIter i1 a i ∧ h.IsTupleIter i2 b i) :=
  turn_bare (RZ.turn_zipT D) fun X e1 e2 e3 hc i pn s σ H E I ⟨zz, pI, ⟨_, _, pO⟩, l1, l2⟩ ⟨xs, ys, x, y, sx, sy, gx, gy⟩ => by
    subst e1 e2 e3
    obtain ⟨us, rv, pl, _⟩ := I.tuple sx
    obtain ⟨ws, rw', pl', _⟩ := I.tuple sy
    obtain ⟨u, gu, ru⟩ := rv.get gx
    obtain ⟨v, gv, rv'⟩ := rw'.get gy
    have lt := Heap.lt_size zz
    refine RZ.pyNext_zipT_item D zz pI pO l1 l2 pl pl' (x := u) (y := v) (by simpa using gu) (by simpa using gv) fun h1 z1 o1 m1 m2 ho _ k => ⟨rfl, wpAny_letOwnedTupleGo_zip (s := { s with heap := h1 }) z1 fun h2 z2 sam => ?_⟩
    refine ⟨h2, s.toks, [u, v], [x, y], rfl, (sam.2 _ (Nat.ne_of_gt lt)).trans ho, .cons ru (.cons rv' .nil), two_le _ _, ⟨x, y, rfl, fun l q => by rw [I.tuple_inj q sx]; exact gx, fun l q => by rw [I.tuple_inj q sy]; exact gy⟩, fun c o nc g => ?_, z2, ?_, ⟨u, v, ?_⟩, ?_, ?_⟩
    · simp only [List.mem_cons, List.not_mem_nil, or_false, not_or] at nc
      exact (sam.2 c nc.1).trans (k c o nc.1 nc.2.2.1 nc.2.2.2.1 nc.2.2.2.2 g)
    · exact (sam.2 _ D.TIz).trans (k _ _ D.TIz D.TITO D.TIi1 D.TIi2 pI)
    · exact (sam.2 _ D.TOz).trans o1
    · exact m1.at fun o q => (sam.2 _ D.i1z).trans q
    · exact m2.at fun o q => (sam.2 _ D.i2z).trans q
end
section
variable {X : Cx} {e e2 : Expr} {ta : TA} {p pos tpos : Pos} {elts : List Expr} {kk : Nat}
theorem new_fp {pn : List (Addr × Obj)} {σ : L2.St} {H : Hp} {s : Shared} (I : Inv X pn σ H s) {l : List Addr} (h : ∀ c ∈ l, s.heap.objs.size ≤ c) : ∀ c ∈ l, FpOk X pn H c := fun c hc => I.fpOk (h c hc) (I.hok.fresh (h c hc))
def iZipB (K : PySem.W.Frag) (ta : TA) : TI := fun (σ : L2.St) H R => ta σ H fun vs H1 => ∃ a b xs ys, vs = [.ref a, .ref b] ∧ ((SqL K H1 a xs ∧ SqL K H1 b ys ∧ R (ItzB K a b) H1) ∨ (SqT K H1 a xs ∧ SqT K H1 b ys ∧ R (ItzTB K a b) H1))
theorem pi_zipB (hg : Gl X "zip") (hm : X.mg "zip" = none) (ha : PA X [e, e2] ta) (hs : starEach [e, e2] X.env = (false, eval e X.env) :: starEach [e2] X.env := by rfl) (hpl : (backTo pos (starEach [e2] X.env)).any (·.1) = false := by rfl) :
    PI X (.Tuple elts kk tpos) (.Call (.Name "zip" p) [e, e2] [] pos) (iZipB X.K ta) := by
  constructor
  intro pn s σ H R I h
  refine Call_ (ld_blt I hg hm PyProof.Rows.boot_zip (PyProof.Rows.callWith_type1 (thn (ha.run pos pn s σ H _ I h) fun us s1 ⟨vs, H1, I1, r1, q1⟩ => ?_) hs hpl))
  obtain ⟨a, b, xs, ys, ex, q1⟩ := q1
  subst ex
  obtain ⟨x1, x2, eu, r, r'⟩ := vals2 r1
  subst eu
  cases r
  cases r'
  · skip
    have ge : ∀ c ∈ [s1.heap.objs.size + 4, s1.heap.objs.size + 2, s1.heap.objs.size + 3, s1.heap.objs.size, s1.heap.objs.size + 1], s1.heap.objs.size ≤ c := fun c hc => by
      simp only [List.mem_cons, List.not_mem_nil, or_false] at hc
      omega
    rcases q1 with ⟨sx, sy, q⟩ | ⟨sx, sy, q⟩
    · obtain ⟨_, _, p1, _⟩ := I1.list sx
      obtain ⟨_, _, p2, _⟩ := I1.list sy
      refine call_zip_2 p1.isList p2.isList fun g zz pI pO l1 l2 _ k => wpAny_pyIter_zip zz ?_
      have J : Inv X pn σ H1 { s1 with heap := g } := I1.kept (t' := s1.toks) k
      exact ⟨_, _, _, _, H1, rfl, J, turn_zipB (PySem.W.ktu_apart s1.heap.objs.size a b p1.lt p2.lt), ⟨zz, pI, ⟨_, _, pO⟩, l1, l2⟩, new_fp I1 ge, q⟩
    · obtain ⟨_, _, p1, _⟩ := I1.tuple sx
      obtain ⟨_, _, p2, _⟩ := I1.tuple sy
      refine RZ.call_zipT p1 p2 fun g zz pI pO l1 l2 _ k => wpAny_pyIter_zip zz ?_
      have J : Inv X pn σ H1 { s1 with heap := g } := I1.kept (t' := s1.toks) k
      exact ⟨_, _, _, _, H1, rfl, J, turn_zipTB (PySem.W.ktu_apart s1.heap.objs.size a b p1.lt p2.lt), ⟨zz, pI, ⟨_, _, pO⟩, l1, l2⟩, new_fp I1 ge, q⟩
end
end DL
end
section
set_option Elab.async false
set_option linter.all false
set_option maxRecDepth 100000
/-! DL: deep data over the hand layer -/
namespace DL
open PySem L2

section
variable {K : PySem.W.Frag} {F F' H H' : Hp}
theorem is_non {v : V} : Is K F .non v ↔ v = .non := by unfold Is; exact Iff.rfl
theorem is_bl {b : Bool} {v : V} : Is K F (.bl b) v ↔ v = .bl b := by unfold Is; exact Iff.rfl
theorem is_int {i : Int} {v : V} : Is K F (.int i) v ↔ v = .int i := by unfold Is; exact Iff.rfl
theorem is_str {x : Str} {v : V} : Is K F (.str x) v ↔ v = .str x := by unfold Is; exact Iff.rfl
theorem is_ty {x : String} {v : V} : Is K F (.ty x) v ↔ v = .ty x := by unfold Is; exact Iff.rfl
theorem is_tup {ds : List D} {v : V} : Is K F (.tup ds) v ↔ ∃ a vs, v = .ref a ∧ SqU K F a vs ∧ IsL K F ds vs := by unfold Is; exact Iff.rfl
theorem is_lst {ds : List D} {v : V} : Is K F (.lst ds) v ↔ ∃ a vs, v = .ref a ∧ F a = some (.lst vs) ∧ IsL K F ds vs := by unfold Is; exact Iff.rfl
theorem is_frl {ds : List D} {v : V} : Is K F (.frl ds) v ↔ ∃ a vs, v = .ref a ∧ SqL K F a vs ∧ IsL K F ds vs := by unfold Is; exact Iff.rfl
theorem is_dct {ks : List Key} {ds : List D} {v : V} : Is K F (.dct ks ds) v ↔ ∃ a vs od, v = .ref a ∧ F a = some (.frz od (.dK (ks.zip vs))) ∧ ks.length = ds.length ∧ IsL K F ds vs := by unfold Is; exact Iff.rfl
theorem is_ins {C : Addr} {fs : List Str} {ds : List D} {v : V} : Is K F (.ins C fs ds) v ↔ ∃ a dx vs, v = .ref a ∧ F a = some (.ins C dx (fs.zip vs)) ∧ fs.length = ds.length ∧ IsL K F ds vs := by unfold Is; exact Iff.rfl
theorem IsL.app : ∀ {ds es : List D} {vs ws : List V}, IsL K F ds vs → IsL K F es ws → IsL K F (ds ++ es) (vs ++ ws)
  | [], _, _, _, h, h' => by rw [isL_nil.1 h]; exact h'
  | d :: ds, _, _, _, h, h' => by
    obtain ⟨v, r, rfl, h1, h2⟩ := isL_cons.1 h
    exact IsL.cons h1 (IsL.app h2 h')
theorem IsL.get' : ∀ {ds : List D} {vs : List V} {i : Nat} {v : V}, IsL K F ds vs → vs[i]? = some v → ∃ d, ds[i]? = some d ∧ Is K F d v
  | [], _, _, _, h, e => by rw [isL_nil.1 h] at e; simp at e
  | d :: ds, _, 0, _, h, e => by
    obtain ⟨v, r, rfl, h1, h2⟩ := isL_cons.1 h
    simp at e
    subst e
    exact ⟨d, rfl, h1⟩
  | d :: ds, _, i + 1, _, h, e => by
    obtain ⟨v, r, rfl, h1, h2⟩ := isL_cons.1 h
    obtain ⟨u, hu, hi⟩ := IsL.get' h2 (by simpa using e)
    exact ⟨u, by simpa using hu, hi⟩
theorem IsL.drop : ∀ {ds : List D} {vs : List V} (n : Nat), IsL K F ds vs → IsL K F (ds.drop n) (vs.drop n)
  | _, _, 0, h => h
  | [], _, n + 1, h => by rw [isL_nil.1 h]; exact IsL.nil
  | d :: ds, _, n + 1, h => by
    obtain ⟨v, r, rfl, h1, h2⟩ := isL_cons.1 h
    exact IsL.drop n h2
theorem IsL.take : ∀ {ds : List D} {vs : List V} (n : Nat), IsL K F ds vs → IsL K F (ds.take n) (vs.take n)
  | _, _, 0, h => IsL.nil
  | [], _, n + 1, h => by rw [isL_nil.1 h]; exact IsL.nil
  | d :: ds, _, n + 1, h => by
    obtain ⟨v, r, rfl, h1, h2⟩ := isL_cons.1 h
    exact IsL.cons h1 (IsL.take n h2)
theorem IsL.erase : ∀ {ds : List D} {vs : List V} (i : Nat), IsL K F ds vs → IsL K F (ds.eraseIdx i) (vs.eraseIdx i)
  | [], _, i, h => by rw [isL_nil.1 h]; exact IsL.nil
  | d :: ds, _, 0, h => by
    obtain ⟨v, r, rfl, h1, h2⟩ := isL_cons.1 h
    exact h2
  | d :: ds, _, i + 1, h => by
    obtain ⟨v, r, rfl, h1, h2⟩ := isL_cons.1 h
    exact IsL.cons h1 (IsL.erase i h2)
theorem IsL.dropLast : ∀ {ds : List D} {vs : List V}, IsL K F ds vs → IsL K F ds.dropLast vs.dropLast := by
  intro ds vs h
  rw [List.dropLast_eq_take, List.dropLast_eq_take, ← h.length]
  exact h.take _
theorem IsL.rep {ds : List D} {vs : List V} (h : IsL K F ds vs) : ∀ n : Nat, IsL K F (List.replicate n ds).flatten (List.replicate n vs).flatten
  | 0 => IsL.nil
  | n + 1 => by
    rw [List.replicate_succ, List.replicate_succ, List.flatten_cons, List.flatten_cons]
    exact IsL.app h (IsL.rep h n)
theorem IsL.ints : ∀ (ns : List Int) {vs : List V}, IsL K F (ns.map D.int) vs ↔ vs = ns.map V.int
  | [], vs => by rw [List.map_nil, List.map_nil]; exact isL_nil
  | n :: ns, vs => by
    rw [List.map_cons, List.map_cons, isL_cons]
    constructor
    · rintro ⟨v, r, rfl, h1, h2⟩
      rw [is_int.1 h1, (IsL.ints ns).1 h2]
    · rintro rfl
      exact ⟨_, _, rfl, is_int.2 rfl, (IsL.ints ns).2 rfl⟩
theorem IsL.strs : ∀ (ns : List Str) {vs : List V}, IsL K F (ns.map D.str) vs ↔ vs = ns.map V.str
  | [], vs => by rw [List.map_nil, List.map_nil]; exact isL_nil
  | n :: ns, vs => by
    rw [List.map_cons, List.map_cons, isL_cons]
    constructor
    · rintro ⟨v, r, rfl, h1, h2⟩
      rw [is_str.1 h1, (IsL.strs ns).1 h2]
    · rintro rfl
      exact ⟨_, _, rfl, is_str.2 rfl, (IsL.strs ns).2 rfl⟩
theorem IsL.bls : ∀ (ns : List Bool) {vs : List V}, IsL K F (ns.map D.bl) vs ↔ vs = ns.map V.bl
  | [], vs => by rw [List.map_nil, List.map_nil]; exact isL_nil
  | n :: ns, vs => by
    rw [List.map_cons, List.map_cons, isL_cons]
    constructor
    · rintro ⟨v, r, rfl, h1, h2⟩
      rw [is_bl.1 h1, (IsL.bls ns).1 h2]
    · rintro rfl
      exact ⟨_, _, rfl, is_bl.2 rfl, (IsL.bls ns).2 rfl⟩
end
/-! ### the store of cells -/
def mdel (M : Store) (a : Addr) : Store := fun b => if b = a then none else M b
theorem mdel_same {M : Store} {a : Addr} : mdel M a a = none := by unfold mdel; rw [if_pos rfl]
theorem mdel_ne {M : Store} {a b : Addr} (h : b ≠ a) : mdel M a b = M b := by unfold mdel; rw [if_neg h]
section
variable {K : PySem.W.Frag} {F F1 F2 F' H H1 H2 H' : Hp} {M M1 M2 M' : Store}
theorem Stp.trans (a : Stp F M H F1 M1 H1) (b : Stp F1 M1 H1 F2 M2 H2) : Stp F M H F2 M2 H2 where
  ext := a.ext.trans b.ext
  new := fun x o h => by
    rcases b.new x o h with h1 | h1 | h1
    · exact a.new x o h1
    · refine .inr (.inl ?_)
      cases e : H x with
      | none => rfl
      | some u => exact absurd h1 (a.there x (by rw [e]; simp))
    · refine .inr ?_
      cases e : H x with
      | none => exact .inl rfl
      | some u => exact .inr fun m => h1 (a.dom x m (by rw [e]; simp))
  keep := fun x o h m => b.keep x o (a.keep x o h m) (a.dom x m (by rw [h]; simp))
  dom := fun x m h => b.dom x (a.dom x m h) (a.there x h)
  there := fun x h => b.there x (a.there x h)
theorem Ok.frz (ok : Ok K F M H) {a : Addr} {od : Obj} {u : HO} (h : F a = some (.frz od u)) : H a = some (.frz od u) := by
  rcases ok.sub a _ h with e | ⟨_, ob, e, e2⟩
  · exact e
  · cases e
theorem Ok.rd (ok : Ok K F M H) {a : Addr} {od : Obj} {kvs : List (Key × V)} (h : F a = some (.frz od (.dK kvs))) : Rd H a (.dK kvs) := .inr ⟨od, ok.frz h⟩
theorem Ok.bare (ok : Ok K F M H) {a : Addr} {vs : List V} (h : Bare F a vs) : Bare H a vs := let ⟨ob, hd, e⟩ := h; ⟨ob, hd, ok.frz e⟩
theorem Ok.sqT (ok : Ok K F M H) {a : Addr} {vs : List V} (h : SqU K F a vs) : SqT K H a vs := by
  rcases h with h | ⟨o, _, its, n, h⟩
  · obtain ⟨ob, _, e⟩ := ok.bare h
    exact .inl (.inr ⟨ob, e⟩)
  · exact .inr ⟨o, its, n, h⟩
theorem Ok.sqL (ok : Ok K F M H) {a : Addr} {vs : List V} (h : SqL K F a vs) : SqL K H a vs := by
  rcases h with (h | ⟨o, h⟩) | h
  · rcases ok.sub a _ h with e | ⟨_, _, e, _⟩
    · exact .inl (.inl e)
    · cases e
  · rcases ok.sub a _ h with e | ⟨_, _, e, _⟩
    · exact .inl (.inr ⟨o, e⟩)
    · cases e
  · exact .inr h
/-- a cell dropped -/
theorem Ok.drop (ok : Ok K F M H) (p : Addr) : Ok K F (mdel M p) H ∧ Stp F M H F (mdel M p) H := by
  refine ⟨⟨ok.sub, fun a n e => ?_⟩, ⟨Same.refl F, fun a u e => .inl e, fun a u e q => e, fun a q n => ?_, fun a n => n⟩⟩
  · by_cases q : a = p
    · rw [q, mdel_same] at e; cases e
    · rw [mdel_ne q] at e; exact ok.mem a n e
  · by_cases z : a = p
    · rw [z, mdel_same]
    · rw [mdel_ne z]; exact q
end
/-! ### slots -/
theorem IsS.mono {K : PySem.W.Frag} {F F' : Hp} {Δ : DS} {σ : L2.St} (e : Same F F') (h : IsS K F Δ σ) : IsS K F' Δ σ := ⟨h.1, fun i d q => by
  obtain ⟨v, h1, h2⟩ := h.2 i d q
  exact ⟨v, h1, h2.mono e⟩⟩
/-! ### the judgements -/
def SemT (X : Cx) (e : Expr) : TT := fun σ H Q => ∀ pins s, Inv X pins σ H s → wpAny (model X.prog X.w) X.A (isTrue e X.env (eval e X.env)) (TP X pins σ Q) X.xe s
def SemA (X : Cx) (es : List Expr) : TA := fun σ H Q => ∀ pos pins s, Inv X pins σ H s → wpAny (model X.prog X.w) X.A (spliced (backTo pos (starEach es X.env))) (AP X pins σ Q) X.xe s
def SemS (X : Cx) (st : Stmt) : TS := fun D σ H => ∀ pins s, Inv X pins σ H s → wpAny (model X.prog X.w) X.A (exec st X.env) (SP X pins D) X.xe s
def SemSs (X : Cx) (st : List Stmt) : TS := fun D σ H => ∀ pins s, Inv X pins σ H s → wpAny (model X.prog X.w) X.A (execs st X.env) (SP X pins D) X.xe s
def SemI (X : Cx) (tg e : Expr) : TI := fun σ H R => ∀ pins s, Inv X pins σ H s → wpAny (model X.prog X.w) X.A (eval e X.env) (fun v s1 => wpAny (model X.prog X.w) X.A (pyIter v) (PIE X pins σ tg R) X.xe s1) X.xe s
def SemG (X : Cx) (tg : Expr) : TG := fun v σ H Q => ∀ pins s u, Inv X pins σ H s → RelV v u → wpAny (model X.prog X.w) X.A (assign tg X.env u) (fun _ s' => ∃ σ' H', Inv X pins σ' H' s' ∧ Q σ' H') X.xe s
section
variable {X : Cx} {e : Expr} {es : List Expr} {st : Stmt} {sts : List Stmt} {tg : Expr} {σ : L2.St} {H : Hp}
theorem pe_sem : PE X e (Sem X e) := ⟨fun pins s _ _ _ I h => h pins s I⟩
theorem pt_sem : PT X e (SemT X e) := ⟨fun pins s _ _ _ I h => h pins s I⟩
theorem pa_sem : PA X es (SemA X es) := ⟨fun pos pins s _ _ _ I h => h pos pins s I⟩
theorem ps_sem : PS X st (SemS X st) := ⟨fun pins s _ _ _ I h => h pins s I⟩
theorem pss_sem : PSs X sts (SemSs X sts) := ⟨fun pins s _ _ _ I h => h pins s I⟩
theorem pi_sem : PI X tg e (SemI X tg e) := ⟨fun pins s _ _ _ I h => h pins s I⟩
theorem pg_sem : PG X tg (SemG X tg) := ⟨fun pins s _ _ _ u _ I r h => h pins s u I r⟩
theorem sem_of {t : TE} {Q : VK} (h : PE X e t) (q : t σ H Q) : Sem X e σ H Q := fun pins s I => h.run pins s σ H Q I q
theorem semT_of {t : TT} {Q : Bool → Hp → Prop} (h : PT X e t) (q : t σ H Q) : SemT X e σ H Q := fun pins s I => h.run pins s σ H Q I q
theorem semA_of {t : TA} {Q : List V → Hp → Prop} (h : PA X es t) (q : t σ H Q) : SemA X es σ H Q := fun pos pins s I => h.run pos pins s σ H Q I q
theorem semS_of {t : TS} {D : Ends} (h : PS X st t) (q : t D σ H) : SemS X st D σ H := fun pins s I => h.run pins s σ H D I q
theorem semSs_of {t : TS} {D : Ends} (h : PSs X sts t) (q : t D σ H) : SemSs X sts D σ H := fun pins s I => h.run pins s σ H D I q
theorem semI_of {t : TI} {R : It → Hp → Prop} (h : PI X tg e t) (q : t σ H R) : SemI X tg e σ H R := fun pins s I => h.run pins s σ H R I q
theorem semG_of {t : TG} {v : V} {Q : L2.St → Hp → Prop} (h : PG X tg t) (q : t v σ H Q) : SemG X tg v σ H Q := fun pins s u I r => h.run pins s σ H v u Q I r q
end
theorem Post.step {K : PySem.W.Frag} {F F1 H H1 : Hp} {M M1 : Store} {k : DK} {Q : VK} (p : Post K F M H k Q) (s : Stp F M H F1 M1 H1) : Post K F1 M1 H1 k Q := fun d M' F' H' v a b c e => p d M' F' H' v a (s.trans b) c e
abbrev BK := Bool → Store → Prop
def PostT (K : PySem.W.Frag) (F : Hp) (M : Store) (H : Hp) (k : BK) (Q : Bool → Hp → Prop) : Prop := ∀ b M' F' H', k b M' → Stp F M H F' M' H' → Ok K F' M' H' → Q b H'
def TeD (X : Cx) (e : Expr) (Δ : DS) (M : Store) (k : BK) : Prop := ∀ F H σ (Q : Bool → Hp → Prop), IsS X.K F Δ σ → Ok X.K F M H → PostT X.K F M H k Q → SemT X e σ H Q
def PostA (K : PySem.W.Frag) (F : Hp) (M : Store) (H : Hp) (k : AK) (Q : List V → Hp → Prop) : Prop := ∀ ds M' F' H' vs, k ds M' → Stp F M H F' M' H' → Ok K F' M' H' → IsL K F' ds vs → Q vs H'
def EvA (X : Cx) (es : List Expr) (Δ : DS) (M : Store) (k : AK) : Prop := ∀ F H σ (Q : List V → Hp → Prop), IsS X.K F Δ σ → Ok X.K F M H → PostA X.K F M H k Q → SemA X es σ H Q
structure KS where
  nx : DS → Store → Prop
  rt : DK
  bk : DS → Store → Prop := fun _ _ => False
  ct : DS → Store → Prop := fun _ _ => False
structure PostS (K : PySem.W.Frag) (F : Hp) (M : Store) (H : Hp) (k : KS) (Q : Ends) : Prop where
  nx : ∀ Δ' M' F' H' σ', k.nx Δ' M' → Stp F M H F' M' H' → Ok K F' M' H' → IsS K F' Δ' σ' → Q.nx σ' H'
  rt : Post K F M H k.rt Q.rt
  bk : ∀ Δ' M' F' H' σ', k.bk Δ' M' → Stp F M H F' M' H' → Ok K F' M' H' → IsS K F' Δ' σ' → Q.bk σ' H'
  ct : ∀ Δ' M' F' H' σ', k.ct Δ' M' → Stp F M H F' M' H' → Ok K F' M' H' → IsS K F' Δ' σ' → Q.ct σ' H'
def StD (X : Cx) (st : Stmt) (Δ : DS) (M : Store) (k : KS) : Prop := ∀ F H σ (Q : Ends), IsS X.K F Δ σ → Ok X.K F M H → PostS X.K F M H k Q → SemS X st Q σ H
def SsD (X : Cx) (st : List Stmt) (Δ : DS) (M : Store) (k : KS) : Prop := ∀ F H σ (Q : Ends), IsS X.K F Δ σ → Ok X.K F M H → PostS X.K F M H k Q → SemSs X st Q σ H
theorem PostT.step {K : PySem.W.Frag} {F F1 H H1 : Hp} {M M1 : Store} {k : BK} {Q : Bool → Hp → Prop} (p : PostT K F M H k Q) (s : Stp F M H F1 M1 H1) : PostT K F1 M1 H1 k Q := fun d M' F' H' a b c => p d M' F' H' a (s.trans b) c
theorem PostA.step {K : PySem.W.Frag} {F F1 H H1 : Hp} {M M1 : Store} {k : AK} {Q : List V → Hp → Prop} (p : PostA K F M H k Q) (s : Stp F M H F1 M1 H1) : PostA K F1 M1 H1 k Q := fun d M' F' H' v a b c e => p d M' F' H' v a (s.trans b) c e
theorem PostS.step {K : PySem.W.Frag} {F F1 H H1 : Hp} {M M1 : Store} {k : KS} {Q : Ends} (p : PostS K F M H k Q) (s : Stp F M H F1 M1 H1) : PostS K F1 M1 H1 k Q :=
  ⟨fun d M' F' H' v a b c e => p.nx d M' F' H' v a (s.trans b) c e, p.rt.step s, fun d M' F' H' v a b c e => p.bk d M' F' H' v a (s.trans b) c e, fun d M' F' H' v a b c e => p.ct d M' F' H' v a (s.trans b) c e⟩
end DL
end
section
set_option Elab.async false
set_option linter.all false
set_option maxRecDepth 100000
namespace DL
open PySem L2
section
variable {X : Cx} {a b e : Expr} {es : List Expr} {Δ : DS} {M : Store} {k : DK} {pos : Pos}
/-! ### leaves -/
theorem ev_var {i : Nat} {x : Str} {d : D} (hN : X.N[i]? = some x) (hv : Vis X.env.scope x) (hd : (x == ("__debug__" : Str)) = false) (hcd : (x == ("__classdict__" : Str)) = false)
    (hi : Δ[i]? = some (some d)) (h : k d M) : EvD X (.Name x pos) Δ M k := fun F H σ Q hs ok post => by
  obtain ⟨v, h1, h2⟩ := hs.2 i d hi
  exact sem_of (pe_var hN hv hd hcd) ⟨v, h1, post d M F H v h Stp.refl ok h2⟩
theorem ev_c {v : V} {d : D} (hp : PE X e (tC v)) (hd : ∀ F, Is X.K F d v) (h : k d M) : EvD X e Δ M k := fun F H σ Q hs ok post =>
  sem_of hp (post d M F H v h Stp.refl ok (hd F))
theorem ev_int {i : Int} {j : Nat} (h : k (.int i) M) : EvD X (.Constant (.int i) j pos) Δ M k := ev_c pe_int (fun _ => is_int.2 rfl) h
theorem ev_bl {i : Bool} {j : Nat} (h : k (.bl i) M) : EvD X (.Constant (.bool i) j pos) Δ M k := ev_c pe_bl (fun _ => is_bl.2 rfl) h
theorem ev_non {j : Nat} (h : k .non M) : EvD X (.Constant .none j pos) Δ M k := ev_c pe_non (fun _ => is_non.2 rfl) h
theorem ev_str {x : Str} {j : Nat} (h : k (.str x) M) : EvD X (.Constant (.str x) j pos) Δ M k := ev_c pe_str (fun _ => is_str.2 rfl) h
theorem EvD.mono {k' : DK} (h : EvD X e Δ M k) (hk : ∀ d M', k d M' → k' d M') : EvD X e Δ M k' := fun F H σ Q hs ok post => h F H σ Q hs ok fun d M' F' H' v q => post d M' F' H' v (hk d M' q)
/-! ### two operands -/
def P2 (X : Cx) (r : R2) (d1 d2 : D) (M : Store) (k : DK) : Prop := ∀ F H x y Q, Ok X.K F M H → Is X.K F d1 x → Is X.K F d2 y → Post X.K F M H k Q → r x y H Q
def P1 (X : Cx) (r : V → Hp → VK → Prop) (d1 : D) (M : Store) (k : DK) : Prop := ∀ F H x Q, Ok X.K F M H → Is X.K F d1 x → Post X.K F M H k Q → r x H Q
theorem two {R : D → D → Store → Prop} (h : EvD X a Δ M fun d1 M1 => EvD X b Δ M1 fun d2 M2 => R d1 d2 M2) {F H : Hp} {σ : L2.St} (hs : IsS X.K F Δ σ) (ok : Ok X.K F M H) {T : V → V → Hp → Prop}
    (hT : ∀ d1 d2 M' F' H' x y, R d1 d2 M' → Stp F M H F' M' H' → Ok X.K F' M' H' → Is X.K F' d1 x → Is X.K F' d2 y → T x y H') : Sem X a σ H fun x H1 => Sem X b σ H1 fun y H2 => T x y H2 :=
  h F H σ _ hs ok fun d1 M1 F1 H1 x k1 st1 ok1 is1 => k1 F1 H1 σ _ (hs.mono st1.ext) ok1 fun d2 M2 F2 H2 y k2 st2 ok2 is2 =>
    hT d1 d2 M2 F2 H2 x y k2 (st1.trans st2) ok2 (is1.mono st2.ext) is2
theorem ev_op2 {op : Operator} {r : R2} (ho : OpR X (binaryOp op) r) (h : EvD X a Δ M fun d1 M1 => EvD X b Δ M1 fun d2 M2 => P2 X r d1 d2 M2 k) : EvD X (.BinOp a op b pos) Δ M k := fun F H σ Q hs ok post =>
  sem_of (pe_op ho pe_sem pe_sem) (two h hs ok fun d1 d2 M' F' H' x y p st ok' i1 i2 => p F' H' x y Q ok' i1 i2 (post.step st))
theorem ev_un {op : UnaryOp} {r : V → Hp → VK → Prop} (ho : UnR X (unaryOp op) r) (h : EvD X a Δ M fun d1 M1 => P1 X r d1 M1 k) : EvD X (.UnaryOp op a pos) Δ M k := fun F H σ Q hs ok post =>
  sem_of (pe_un ho pe_sem) (h F H σ _ hs ok fun d1 M1 F1 H1 x p st ok' i1 => p F1 H1 x Q ok' i1 (post.step st))
theorem Post.here {K : PySem.W.Frag} {F : Hp} {M : Store} {H : Hp} {Q : VK} {d : D} {v : V} (p : Post K F M H k Q) (ok : Ok K F M H) (h : k d M) (i : Is K F d v) : Q v H := p d M F H v h Stp.refl ok i
theorem Post.fresh {K : PySem.W.Frag} {F : Hp} {M : Store} {H : Hp} {Q : VK} {d : D} {o : HO} (p : Post K F M H k Q) (ok : Ok K F M H) (h : k d M) {q : Addr} (hq : H q = none) (i : Is K (upd F q o) d (.ref q)) : Q (.ref q) (upd H q o) :=
  p d M _ _ _ h (ok.new hq).2 (ok.new hq).1 i
theorem IsL.up {K : PySem.W.Frag} {F : Hp} {ds : List D} {vs : List V} {q : Addr} {o : HO} (h : IsL K F ds vs) (hq : F q = none) : IsL K (upd F q o) ds vs := h.mono (same_new hq)
theorem lst_new {K : PySem.W.Frag} {F : Hp} {ds : List D} {vs : List V} {q : Addr} (h : IsL K F ds vs) (hq : F q = none) : Is K (upd F q (.lst vs)) (.lst ds) (.ref q) := is_lst.2 ⟨q, vs, rfl, upd_same, h.up hq⟩
theorem tup_new {K : PySem.W.Frag} {F : Hp} {ds : List D} {vs : List V} {q : Addr} {ob : Obj} (hd : ob.dict = none) (h : IsL K F ds vs) (hq : F q = none) : Is K (upd F q (.frz ob (.tup vs))) (.tup ds) (.ref q) := is_tup.2 ⟨q, vs, rfl, .inl ⟨ob, hd, upd_same⟩, h.up hq⟩
/-! + -/
def AddP (d1 d2 : D) (M : Store) (k : DK) : Prop := match d1, d2 with
  | .int i, .int j => k (.int (i + j)) M
  | .str x, .str y => x.length + y.length ≤ sizeLine ∧ k (.str (x ++ y)) M
  | .lst xs, .lst ys => xs.length + ys.length ≤ sizeLine ∧ k (.lst (xs ++ ys)) M
  | .tup xs, .tup ys => xs.length + ys.length ≤ sizeLine ∧ k (.tup (xs ++ ys)) M
  | _, _ => False
def rAddA (K : PySem.W.Frag) : R2 := fun x y H Q => (rI0 fun i j => V.int (i + j)) x y H Q ∨ (∃ i j, x = .str i ∧ y = .str j ∧ i.length + j.length ≤ sizeLine ∧ Q (.str (i ++ j)) H) ∨ rCat x y H Q ∨ rCatB K x y H Q
theorem op_addA : OpR X (binaryOp .Add) (rAddA X.K) := op_add.or (op_add_str.or (op_cat.or op_catB))
theorem p2_add {d1 d2 : D} (h : AddP d1 d2 M k) : P2 X (rAddA X.K) d1 d2 M k := fun F H x y Q ok i1 i2 post => by
  unfold AddP at h
  split at h
  · exact .inl ⟨_, _, is_int.1 i1, is_int.1 i2, post.here ok h (is_int.2 rfl)⟩
  · exact .inr (.inl ⟨_, _, is_str.1 i1, is_str.1 i2, h.1, post.here ok h.2 (is_str.2 rfl)⟩)
  · obtain ⟨p, vs, e1, h1, l1⟩ := is_lst.1 i1
    obtain ⟨q, ws, e2, h2, l2⟩ := is_lst.1 i2
    refine .inr (.inr (.inl ⟨p, q, vs, ws, e1, e2, ok.lst h1, ok.lst h2, by rw [← l1.length, ← l2.length]; exact h.1, fun r hr => post.fresh ok h.2 hr (lst_new (l1.app l2) (ok.fresh hr).1)⟩))
  · rename_i xs ys
    obtain ⟨p, vs, e1, h1, l1⟩ := is_tup.1 i1
    obtain ⟨q, ws, e2, h2, l2⟩ := is_tup.1 i2
    refine .inr (.inr (.inr ⟨p, q, vs, ws, e1, e2, ok.sqT h1, ok.sqT h2, by rw [← l1.length, ← l2.length]; exact h.1, ?_⟩))
    split
    · rename_i e
      subst e
      have z : xs = [] := List.length_eq_zero_iff.mp l1.length
      subst z
      exact post.here ok h.2 (is_tup.2 ⟨q, ws, rfl, h2, l2⟩)
    · split
      · rename_i e
        subst e
        have z : ys = [] := List.length_eq_zero_iff.mp l2.length
        subst z
        refine post.here ok h.2 (is_tup.2 ⟨p, vs, rfl, h1, ?_⟩)
        rw [List.append_nil]
        exact l1
      · exact fun r ob hr hd => post.fresh ok h.2 hr (tup_new hd (l1.app l2) (ok.fresh hr).1)
  · exact h.elim
theorem ev_add (h : EvD X a Δ M fun d1 M1 => EvD X b Δ M1 fun d2 M2 => AddP d1 d2 M2 k) : EvD X (.BinOp a .Add b pos) Δ M k :=
  ev_op2 op_addA (h.mono fun _ _ q => q.mono fun _ _ p => p2_add p)
/-! ints -/
def IntP (C : Int → Int → Prop) (g : Int → Int → D) (d1 d2 : D) (M : Store) (k : DK) : Prop := match d1, d2 with
  | .int i, .int j => C i j ∧ k (g i j) M
  | _, _ => False
theorem p2_int {C : Int → Int → Prop} {g : Int → Int → V} {gd : Int → Int → D} (hg : ∀ F i j, Is X.K F (gd i j) (g i j)) {d1 d2 : D} (h : IntP C gd d1 d2 M k) : P2 X (rI C g) d1 d2 M k := fun F H x y Q ok i1 i2 post => by
  unfold IntP at h
  split at h
  · exact ⟨_, _, is_int.1 i1, is_int.1 i2, h.1, post.here ok h.2 (hg _ _ _)⟩
  · exact h.elim
def NumP (g : Int → Int → D) (d1 d2 : D) (M : Store) (k : DK) : Prop := match d1, d2 with
  | .int i, .int j => k (g i j) M
  | _, _ => False
theorem p2_num {g : Int → Int → V} {gd : Int → Int → D} (hg : ∀ F i j, Is X.K F (gd i j) (g i j)) {d1 d2 : D} (h : NumP gd d1 d2 M k) : P2 X (rI0 g) d1 d2 M k := fun F H x y Q ok i1 i2 post => by
  unfold NumP at h
  split at h
  · exact ⟨_, _, is_int.1 i1, is_int.1 i2, post.here ok h (hg _ _ _)⟩
  · exact h.elim
theorem ev_sub (h : EvD X a Δ M fun d1 M1 => EvD X b Δ M1 fun d2 M2 => NumP (fun i j => .int (i - j)) d1 d2 M2 k) : EvD X (.BinOp a .Sub b pos) Δ M k :=
  ev_op2 op_sub (h.mono fun _ _ q => q.mono fun _ _ p => p2_num (fun _ _ _ => is_int.2 rfl) p)
theorem op_mulI : OpR X (binaryOp .Mult) (rI IntMulOk fun i j => .int (i * j)) := opI fun _ _ _ _ _ _ _ hc q => PyProof.Rows.mul_int q hc
def MulP (d1 d2 : D) (M : Store) (k : DK) : Prop := match d1, d2 with
  | .int i, .int j => IntMulOk i j ∧ k (.int (i * j)) M
  | .lst xs, .int j => (-(2 ^ 63) ≤ j ∧ j < 2 ^ 63 ∧ xs.length * j.toNat ≤ sizeLine) ∧ k (.lst (List.replicate j.toNat xs).flatten) M
  | _, _ => False
theorem p2_mul {d1 d2 : D} (h : MulP d1 d2 M k) : P2 X (fun x y H Q => rI IntMulOk (fun i j => .int (i * j)) x y H Q ∨ rRep x y H Q) d1 d2 M k := fun F H x y Q ok i1 i2 post => by
  unfold MulP at h
  split at h
  · exact .inl ⟨_, _, is_int.1 i1, is_int.1 i2, h.1, post.here ok h.2 (is_int.2 rfl)⟩
  · obtain ⟨p, vs, e1, h1, l1⟩ := is_lst.1 i1
    exact .inr ⟨p, _, vs, e1, is_int.1 i2, ok.lst h1, h.1.1, h.1.2.1, by rw [← l1.length]; exact h.1.2.2, fun r hr => post.fresh ok h.2 hr (lst_new (l1.rep _) (ok.fresh hr).1)⟩
  · exact h.elim
theorem ev_mul (h : EvD X a Δ M fun d1 M1 => EvD X b Δ M1 fun d2 M2 => MulP d1 d2 M2 k) : EvD X (.BinOp a .Mult b pos) Δ M k :=
  ev_op2 (op_mulI.or op_rep) (h.mono fun _ _ q => q.mono fun _ _ p => p2_mul p)
theorem ev_mod (h : EvD X a Δ M fun d1 M1 => EvD X b Δ M1 fun d2 M2 => IntP (fun _ j => 0 < j) (fun i j => .int (i % j)) d1 d2 M2 k) : EvD X (.BinOp a .Mod b pos) Δ M k :=
  ev_op2 op_mod (h.mono fun _ _ q => q.mono fun _ _ p => p2_int (fun _ _ _ => is_int.2 rfl) p)
theorem ev_fdiv (h : EvD X a Δ M fun d1 M1 => EvD X b Δ M1 fun d2 M2 => IntP CDivW (fun i j => .int (i / j)) d1 d2 M2 k) : EvD X (.BinOp a .FloorDiv b pos) Δ M k :=
  ev_op2 op_fdivW (h.mono fun _ _ q => q.mono fun _ _ p => p2_int (fun _ _ _ => is_int.2 rfl) p)
theorem ev_pow (h : EvD X a Δ M fun d1 M1 => EvD X b Δ M1 fun d2 M2 => IntP CPow (fun i j => .int (i ^ j.toNat)) d1 d2 M2 k) : EvD X (.BinOp a .Pow b pos) Δ M k :=
  ev_op2 op_pow (h.mono fun _ _ q => q.mono fun _ _ p => p2_int (fun _ _ _ => is_int.2 rfl) p)
def NegP (d1 : D) (M : Store) (k : DK) : Prop := match d1 with
  | .int i => k (.int (-i)) M
  | _ => False
theorem ev_neg (h : EvD X a Δ M fun d1 M1 => NegP d1 M1 k) : EvD X (.UnaryOp .USub a pos) Δ M k :=
  ev_un un_neg (h.mono fun d M1 p F H x Q ok i1 post => by
    unfold NegP at p
    split at p
    · exact ⟨_, is_int.1 i1, post.here ok p (is_int.2 rfl)⟩
    · exact p.elim)
/-! ### comparisons -/
def CmpP (g : Int → Int → Bool) (gs : List Nat → List Nat → Bool) (d1 d2 : D) (M : Store) (k : DK) : Prop := match d1, d2 with
  | .int i, .int j => k (.bl (g i j)) M
  | .str i, .str j => k (.bl (gs i.cps.toList j.cps.toList)) M
  | _, _ => False
theorem p2_cmp {g : Int → Int → Bool} {gs : List Nat → List Nat → Bool} {d1 d2 : D} (h : CmpP g gs d1 d2 M k) : P2 X (fun x y H Q => rI0 (fun i j => .bl (g i j)) x y H Q ∨ ∃ i j, x = .str i ∧ y = .str j ∧ Q (.bl (gs i.cps.toList j.cps.toList)) H) d1 d2 M k := fun F H x y Q ok i1 i2 post => by
  unfold CmpP at h
  split at h
  · exact .inl ⟨_, _, is_int.1 i1, is_int.1 i2, post.here ok h (is_bl.2 rfl)⟩
  · exact .inr ⟨_, _, is_str.1 i1, is_str.1 i2, post.here ok h (is_bl.2 rfl)⟩
  · exact h.elim
abbrev LtP := CmpP (fun i j => decide (i < j)) (fun i j => decide (i < j))
abbrev LeP := CmpP (fun i j => decide (i ≤ j)) (fun i j => !decide (j < i))
abbrev GtP := CmpP (fun i j => decide (j < i)) (fun i j => decide (j < i))
abbrev GeP := CmpP (fun i j => decide (j ≤ i)) (fun i j => !decide (i < j))
/-- what a comparison asks -/
def CoP (op : CmpOp) : D → D → Store → DK → Prop := match op with
  | .Lt => LtP | .LtE => LeP | .Gt => GtP | .GtE => GeP
  | _ => fun _ _ _ _ => False
def rCo (op : CmpOp) : R2 := match op with
  | .Lt => fun x y H Q => rI0 (fun i j => .bl (decide (i < j))) x y H Q ∨ ∃ i j, x = .str i ∧ y = .str j ∧ Q (.bl (decide (i.cps.toList < j.cps.toList))) H
  | .LtE => fun x y H Q => rI0 (fun i j => .bl (decide (i ≤ j))) x y H Q ∨ ∃ i j, x = .str i ∧ y = .str j ∧ Q (.bl (!decide (j.cps.toList < i.cps.toList))) H
  | .Gt => fun x y H Q => rI0 (fun i j => .bl (decide (j < i))) x y H Q ∨ ∃ i j, x = .str i ∧ y = .str j ∧ Q (.bl (decide (j.cps.toList < i.cps.toList))) H
  | .GtE => fun x y H Q => rI0 (fun i j => .bl (decide (j ≤ i))) x y H Q ∨ ∃ i j, x = .str i ∧ y = .str j ∧ Q (.bl (!decide (i.cps.toList < j.cps.toList))) H
  | _ => fun _ _ _ _ => False
theorem op_co {op : CmpOp} : OpR X (compareOp op) (rCo op) := by
  cases op with
  | Lt => exact op_lt.or op_lt_str
  | LtE => exact op_le.or op_le_str
  | Gt => exact op_gt.or op_gt_str
  | GtE => exact op_ge.or op_ge_str
  | _ => exact fun _ _ _ _ _ _ _ _ _ _ _ _ h => h.elim
theorem p2_co {op : CmpOp} {d1 d2 : D} (h : CoP op d1 d2 M k) : P2 X (rCo op) d1 d2 M k := by
  cases op with
  | Lt => exact p2_cmp (show LtP d1 d2 M k from h)
  | LtE => exact p2_cmp (show LeP d1 d2 M k from h)
  | Gt => exact p2_cmp (show GtP d1 d2 M k from h)
  | GtE => exact p2_cmp (show GeP d1 d2 M k from h)
  | _ => exact h.elim
/-! == and != of data -/
mutual
def toPy : D → Option PyData
  | .non => some .none
  | .bl b => some (.bool b)
  | .int i => some (.int i)
  | .str x => some (.str x)
  | .lst ds => (toPyL ds).map .list
  | .frl ds => (toPyL ds).map .list
  | .tup ds => (toPyL ds).map .tuple
  | _ => none
def toPyL : List D → Option (List PyData)
  | [] => some []
  | d :: ds => (toPy d).bind fun p => (toPyL ds).map fun ps => p :: ps
end
section
variable {K : PySem.W.Frag} {F H : Hp}
mutual
theorem dp_of (ok : Ok K F M H) : ∀ (d : D) (p : PyData) (v : V), toPy d = some p → Is K F d v → Dp K H v p
  | .non, p, v, e, i => by
    unfold toPy at e; cases e; rw [is_non.1 i]; exact .non
  | .bl _, p, v, e, i => by
    unfold toPy at e; cases e; rw [is_bl.1 i]; exact .bl _
  | .int _, p, v, e, i => by
    unfold toPy at e; cases e; rw [is_int.1 i]; exact .int _
  | .str _, p, v, e, i => by
    unfold toPy at e; cases e; rw [is_str.1 i]; exact .str _
  | .lst ds, p, v, e, i => by
    unfold toPy at e
    obtain ⟨ps, h1, h2⟩ := Option.map_eq_some_iff.mp e
    subst h2
    obtain ⟨a, vs, rfl, hF, hl⟩ := is_lst.1 i
    exact .lst (SqL.of (ok.lst hF)) (dpAll_of ok ds ps vs h1 hl)
  | .frl ds, p, v, e, i => by
    unfold toPy at e
    obtain ⟨ps, h1, h2⟩ := Option.map_eq_some_iff.mp e
    subst h2
    obtain ⟨a, vs, rfl, hF, hl⟩ := is_frl.1 i
    exact .lst (ok.sqL hF) (dpAll_of ok ds ps vs h1 hl)
  | .tup ds, p, v, e, i => by
    unfold toPy at e
    obtain ⟨ps, h1, h2⟩ := Option.map_eq_some_iff.mp e
    subst h2
    obtain ⟨a, vs, rfl, hF, hl⟩ := is_tup.1 i
    exact .tup (ok.sqT hF) (dpAll_of ok ds ps vs h1 hl)
  | .ty _, p, v, e, i => by unfold toPy at e; cases e
  | .dct _ _, p, v, e, i => by unfold toPy at e; cases e
  | .ins _ _ _, p, v, e, i => by unfold toPy at e; cases e
  | .cell _, p, v, e, i => by unfold toPy at e; cases e
theorem dpAll_of (ok : Ok K F M H) : ∀ (ds : List D) (ps : List PyData) (vs : List V), toPyL ds = some ps → IsL K F ds vs → DpAll K H vs ps
  | [], ps, vs, e, i => by
    unfold toPyL at e; cases e; rw [isL_nil.1 i]; exact .nil
  | d :: ds, ps, vs, e, i => by
    unfold toPyL at e
    obtain ⟨p, h1, h2⟩ := Option.bind_eq_some_iff.mp e
    obtain ⟨qs, h3, h4⟩ := Option.map_eq_some_iff.mp h2
    subst h4
    obtain ⟨v, r, rfl, i1, i2⟩ := isL_cons.1 i
    exact .cons (dp_of ok d p v h1 i1) (dpAll_of ok ds qs r h3 i2)
end
end
def EqP (neg : Bool) (d1 d2 : D) (M : Store) (k : DK) : Prop := ∃ p q, toPy d1 = some p ∧ toPy d2 = some q ∧ SeqAt.shaped p = true ∧ SeqAt.shaped q = true ∧ k (.bl (if neg then !PyData.eqv p q else PyData.eqv p q)) M
/-- scalars -/
def sc : D → Option V
  | .non => some .non | .bl b => some (.bl b) | .int i => some (.int i) | .str x => some (.str x)
  | _ => none
theorem sc_is {K : PySem.W.Frag} {F : Hp} {d : D} {v u : V} (h : sc d = some v) (i : Is K F d u) : u = v := by
  unfold sc at h
  split at h
  · cases h; exact is_non.1 i
  · cases h; exact is_bl.1 i
  · cases h; exact is_int.1 i
  · cases h; exact is_str.1 i
  · cases h
def EqS (neg : Bool) (d1 d2 : D) (M : Store) (k : DK) : Prop := ∃ x y, sc d1 = some x ∧ sc d2 = some y ∧ scal x y = true ∧ k (.bl (if neg then !decide (x = y) else decide (x = y))) M
/-- is None -/
def isNon : D → Bool
  | .non => true
  | _ => false
theorem isNon_of {K : PySem.W.Frag} {F : Hp} {d : D} {v : V} (i : Is K F d v) : decide (v = .non) = isNon d := by
  cases d with
  | non => rw [is_non.1 i]; rfl
  | bl b => rw [is_bl.1 i]; rfl
  | int b => rw [is_int.1 i]; rfl
  | str b => rw [is_str.1 i]; rfl
  | ty b => rw [is_ty.1 i]; rfl
  | cell b => rw [is_cell.1 i]; rfl
  | tup b => obtain ⟨_, _, rfl, _⟩ := is_tup.1 i; rfl
  | lst b => obtain ⟨_, _, rfl, _⟩ := is_lst.1 i; rfl
  | frl b => obtain ⟨_, _, rfl, _⟩ := is_frl.1 i; rfl
  | dct b c => obtain ⟨_, _, _, rfl, _⟩ := is_dct.1 i; rfl
  | ins b c z => obtain ⟨_, _, _, rfl, _⟩ := is_ins.1 i; rfl
/-- in, not in: flat data in a sequence -/
def seqD (M : Store) : D → Option (List D)
  | .tup ds => some ds | .lst ds => some ds | .frl ds => some ds
  | .cell a => match M a with
    | some (.lst ds) => some ds
    | _ => none
  | _ => none
theorem seq_of {K : PySem.W.Frag} {F H : Hp} (ok : Ok K F M H) {d : D} {ds : List D} {v : V} (h : seqD M d = some ds) (i : Is K F d v) : ∃ a vs, v = .ref a ∧ (SqL K H a vs ∨ SqT K H a vs) ∧ IsL K F ds vs := by
  unfold seqD at h
  split at h
  · cases h; obtain ⟨a, vs, e, h1, h2⟩ := is_tup.1 i; exact ⟨a, vs, e, .inr (ok.sqT h1), h2⟩
  · cases h; obtain ⟨a, vs, e, h1, h2⟩ := is_lst.1 i; exact ⟨a, vs, e, .inl (SqL.of (ok.lst h1)), h2⟩
  · cases h; obtain ⟨a, vs, e, h1, h2⟩ := is_frl.1 i; exact ⟨a, vs, e, .inl (ok.sqL h1), h2⟩
  · rename_i a
    split at h
    · rename_i m xs e
      cases h
      obtain ⟨_, o, h1, vs, h2, h3⟩ := ok.mem a _ e
      subst h2
      exact ⟨a, vs, is_cell.1 i, .inl (SqL.of h1), h3⟩
    · cases h
  · cases h
def flatL : List D → Option (List V)
  | [] => some []
  | d :: ds => (sc d).bind fun v => (flatL ds).map fun vs => v :: vs
theorem flatL_of {K : PySem.W.Frag} {F : Hp} : ∀ {ds : List D} {vs us : List V}, flatL ds = some vs → IsL K F ds us → us = vs
  | [], _, _, h, i => by unfold flatL at h; cases h; exact isL_nil.1 i
  | d :: ds, _, _, h, i => by
    unfold flatL at h
    obtain ⟨p, h1, h2⟩ := Option.bind_eq_some_iff.mp h
    obtain ⟨qs, h3, h4⟩ := Option.map_eq_some_iff.mp h2
    subst h4
    obtain ⟨v, r, rfl, i1, i2⟩ := isL_cons.1 i
    rw [sc_is h1 i1, flatL_of h3 i2]
theorem flatV_sc {d : D} {v : V} (h : sc d = some v) : flatV v = true := by
  unfold sc at h
  split at h <;> cases h <;> rfl
theorem flatL_all : ∀ {ds : List D} {vs : List V}, flatL ds = some vs → vs.all flatV = true
  | [], _, h => by unfold flatL at h; cases h; rfl
  | d :: ds, _, h => by
    unfold flatL at h
    obtain ⟨p, h1, h2⟩ := Option.bind_eq_some_iff.mp h
    obtain ⟨qs, h3, h4⟩ := Option.map_eq_some_iff.mp h2
    subst h4
    rw [List.all_cons, flatV_sc h1, flatL_all h3]
    rfl
def InP (neg : Bool) (d1 d2 : D) (M : Store) (k : DK) : Prop := ∃ x ds vs, sc d1 = some x ∧ seqD M d2 = some ds ∧ flatL ds = some vs ∧ k (.bl (if neg then !inV x vs else inV x vs)) M
end
end DL
end
section
set_option Elab.async false
set_option linter.all false
set_option maxRecDepth 100000
namespace DL
open PySem L2
section
variable {X : Cx} {a b e : Expr} {es rest : List Expr} {Δ : DS} {M : Store} {k : DK} {kb : BK} {pos : Pos}
/-! ### tests -/
theorem TeD.mono {k' : BK} (h : TeD X e Δ M kb) (hk : ∀ d M', kb d M' → k' d M') : TeD X e Δ M k' := fun F H σ Q hs ok post => h F H σ Q hs ok fun d M' F' H' q => post d M' F' H' (hk d M' q)
theorem te_not (h : TeD X a Δ M fun c M' => kb (!c) M') : TeD X (.UnaryOp .Not a pos) Δ M kb := fun F H σ Q hs ok post =>
  semT_of (pt_not pt_sem) (h F H σ _ hs ok fun d M' F' H' q st ok' => post _ M' F' H' q st ok')
/-- a chain of and, or: a test whatever its whole is -/
def SemW (X : Cx) (e : Expr) : TT := fun σ H Q => ∀ (whole : PySem.Sem Value) pins s, Inv X pins σ H s → wpAny (model X.prog X.w) X.A (isTrue e X.env whole) (TP X pins σ Q) X.xe s
theorem pw_sem : PW X e (SemW X e) := ⟨fun wh pins s _ _ _ I h => h wh pins s I⟩
theorem semW_of {t : TT} {σ : L2.St} {H : Hp} {Q : Bool → Hp → Prop} (h : PW X e t) (q : t σ H Q) : SemW X e σ H Q := fun wh pins s I => h.run wh pins s σ H Q I q
def WeD (X : Cx) (e : Expr) (Δ : DS) (M : Store) (k : BK) : Prop := ∀ F H σ (Q : Bool → Hp → Prop), IsS X.K F Δ σ → Ok X.K F M H → PostT X.K F M H k Q → SemW X e σ H Q
theorem te_w (h : WeD X e Δ M kb) : TeD X e Δ M kb := fun F H σ Q hs ok post => semT_of (PW.pt pw_sem) (h F H σ Q hs ok post)
theorem we_and1 (h : TeD X a Δ M kb) : WeD X (.BoolOp .And [a] pos) Δ M kb := fun F H σ Q hs ok post => semW_of (pw_and1 pt_sem) (h F H σ Q hs ok post)
theorem we_or1 (h : TeD X a Δ M kb) : WeD X (.BoolOp .Or [a] pos) Δ M kb := fun F H σ Q hs ok post => semW_of (pw_or1 pt_sem) (h F H σ Q hs ok post)
theorem we_and (h : TeD X a Δ M fun c M1 => if c = true then WeD X (.BoolOp .And (b :: rest) pos) Δ M1 kb else kb false M1) : WeD X (.BoolOp .And (a :: b :: rest) pos) Δ M kb := fun F H σ Q hs ok post =>
  semW_of (pw_and pt_sem pw_sem) (h F H σ _ hs ok fun c M' F' H' q st ok' => by
    cases c with
    | true => exact q F' H' σ Q (hs.mono st.ext) ok' (post.step st)
    | false => exact post _ M' F' H' q st ok')
theorem we_or (h : TeD X a Δ M fun c M1 => if c = true then kb true M1 else WeD X (.BoolOp .Or (b :: rest) pos) Δ M1 kb) : WeD X (.BoolOp .Or (a :: b :: rest) pos) Δ M kb := fun F H σ Q hs ok post =>
  semW_of (pw_or pt_sem pw_sem) (h F H σ _ hs ok fun c M' F' H' q st ok' => by
    cases c with
    | false => exact q F' H' σ Q (hs.mono st.ext) ok' (post.step st)
    | true => exact post _ M' F' H' q st ok')
/-- and, or, not as values (bools) -/
theorem ev_one {op} (h : EvD X a Δ M k) : EvD X (.BoolOp op [a] pos) Δ M k := fun F H σ Q hs ok post => sem_of (pe_one pe_sem) (h F H σ Q hs ok post)
theorem ev_and (h : EvD X a Δ M fun d M1 => ∃ c, d = .bl c ∧ if c = true then EvD X (.BoolOp .And (b :: rest) pos) Δ M1 k else k (.bl false) M1) : EvD X (.BoolOp .And (a :: b :: rest) pos) Δ M k := fun F H σ Q hs ok post =>
  sem_of (pe_and pe_sem pe_sem) (h F H σ _ hs ok fun d M' F' H' v ⟨c, ed, q⟩ st ok' i => by
    subst ed
    refine ⟨c, is_bl.1 i, ?_⟩
    cases c with
    | true => exact q F' H' σ Q (hs.mono st.ext) ok' (post.step st)
    | false => exact (post.step st).here ok' q (is_bl.2 rfl))
theorem ev_not (h : EvD X a Δ M fun d M1 => ∃ c, d = .bl c ∧ k (.bl (!c)) M1) : EvD X (.UnaryOp .Not a pos) Δ M k := fun F H σ Q hs ok post =>
  sem_of (pe_not pe_sem) (h F H σ _ hs ok fun d M' F' H' v ⟨c, ed, q⟩ st ok' i => by
    subst ed
    exact ⟨c, is_bl.1 i, (post.step st).here ok' q (is_bl.2 rfl)⟩)
/-- x or y by truth, x a sequence or a flat thing -/
def truD (M : Store) : D → Option Bool
  | .non => some false | .bl b => some b | .int i => some (i != 0)
  | .tup ds => some (!ds.isEmpty) | .lst ds => some (!ds.isEmpty) | .frl ds => some (!ds.isEmpty) | .str x => if x.length ≤ sizeLine then some ((x.length : Int) != 0) else none
  | .cell a => match M a with
    | some (.lst ds) => some (!ds.isEmpty)
    | _ => none
  | _ => none
theorem IsL.isEmpty {K : PySem.W.Frag} {F : Hp} {ds : List D} {vs : List V} (h : IsL K F ds vs) : ds.isEmpty = vs.isEmpty := by
  have l := h.length
  cases ds <;> cases vs <;> simp at l ⊢
theorem tru_of {K : PySem.W.Frag} {F H : Hp} (ok : Ok K F M H) {d : D} {c : Bool} {v : V} (h : truD M d = some c) (i : Is K F d v) : TruV K v H c := by
  unfold truD at h
  split at h
  · cases h; rw [is_non.1 i]; rfl
  · cases h; rw [is_bl.1 i]; rfl
  · cases h; rw [is_int.1 i]; rfl
  · cases h; obtain ⟨p, vs, rfl, h1, h2⟩ := is_tup.1 i; exact .inr (.inl ⟨vs, ok.sqT h1, by rw [h2.isEmpty]⟩)
  · cases h; obtain ⟨p, vs, rfl, h1, h2⟩ := is_lst.1 i; exact .inl ⟨vs, SqL.of (ok.lst h1), by rw [h2.isEmpty]⟩
  · cases h; obtain ⟨p, vs, rfl, h1, h2⟩ := is_frl.1 i; exact .inl ⟨vs, ok.sqL h1, by rw [h2.isEmpty]⟩
  · split at h
    · rename_i hl
      cases h; rw [is_str.1 i]; exact ⟨hl, rfl⟩
    · cases h
  · rename_i p
    split at h
    · rename_i m xs e
      cases h
      obtain ⟨_, o, h1, vs, h2, h3⟩ := ok.mem p _ e
      subst h2
      rw [is_cell.1 i]
      exact .inl ⟨vs, SqL.of h1, by rw [h3.isEmpty]⟩
    · cases h
  · cases h
theorem ev_orT (h : EvD X a Δ M fun d M1 => ∃ c, truD M1 d = some c ∧ if c = true then k d M1 else EvD X (.BoolOp .Or (b :: rest) pos) Δ M1 k) : EvD X (.BoolOp .Or (a :: b :: rest) pos) Δ M k := fun F H σ Q hs ok post =>
  sem_of (pe_orT pe_sem pe_sem) (h F H σ _ hs ok fun d M' F' H' v ⟨c, ed, q⟩ st ok' i => by
    refine ⟨c, tru_of ok' ed i, ?_⟩
    cases c with
    | false => exact q F' H' σ Q (hs.mono st.ext) ok' (post.step st)
    | true => exact (post.step st).here ok' q i)
theorem te_truth (he : ∀ whole, isTrue a X.env whole = (do let v ← whole; standAt a.pos; holding [v] (truthy v))) (h : EvD X a Δ M fun d M1 => ∃ c, truD M1 d = some c ∧ kb c M1) : TeD X a Δ M kb := fun F H σ Q hs ok post =>
  semT_of (pt_truth pe_sem he) (h F H σ _ hs ok fun d M' F' H' v ⟨c, ed, q⟩ st ok' i => ⟨c, tru_of ok' ed i, post _ M' F' H' q st ok'⟩)
theorem ev_if {c : Expr} (h : TeD X c Δ M fun t M1 => if t = true then EvD X a Δ M1 k else EvD X b Δ M1 k) : EvD X (.IfExp c a b pos) Δ M k := fun F H σ Q hs ok post =>
  sem_of (pe_ifExp pt_sem pe_sem pe_sem) (h F H σ _ hs ok fun t M' F' H' q st ok' => by
    cases t with
    | true => exact q F' H' σ Q (hs.mono st.ext) ok' (post.step st)
    | false => exact q F' H' σ Q (hs.mono st.ext) ok' (post.step st))
/-! ### argument lists, displays -/
theorem ea_nil {ka : AK} (h : ka [] M) : EvA X [] Δ M ka := fun F H σ Q hs ok post => semA_of pa_nil (post [] M F H [] h Stp.refl ok IsL.nil)
theorem ea_cons {ka : AK} (h : EvD X e Δ M fun d M1 => EvA X es Δ M1 fun ds M2 => ka (d :: ds) M2) (hs : starEach (e :: es) X.env = (false, eval e X.env) :: starEach es X.env := by rfl) : EvA X (e :: es) Δ M ka := fun F H σ Q hS ok post =>
  semA_of (pa_cons pe_sem pa_sem hs) (h F H σ _ hS ok fun d M1 F1 H1 v q st1 ok1 i1 => q F1 H1 σ _ (hS.mono st1.ext) ok1 fun ds M2 F2 H2 vs q2 st2 ok2 i2 =>
    post (d :: ds) M2 F2 H2 (v :: vs) q2 (st1.trans st2) ok2 (IsL.cons (i1.mono st2.ext) i2))
theorem EvA.mono {ka kc : AK} (h : EvA X es Δ M ka) (hk : ∀ d M', ka d M' → kc d M') : EvA X es Δ M kc := fun F H σ Q hs ok post => h F H σ Q hs ok fun d M' F' H' v q => post d M' F' H' v (hk d M' q)
theorem ev_tup {x1} (h : EvA X es Δ M fun ds M1 => ds.length ≤ sizeLine ∧ k (.tup ds) M1) : EvD X (.Tuple es x1 pos) Δ M k := fun F H σ Q hs ok post =>
  sem_of (pe_tupB pa_sem) (h F H σ _ hs ok fun ds M1 F1 H1 vs q st ok1 i => ⟨by rw [← i.length]; exact q.1, fun p ob hp hd => (post.step st).fresh ok1 q.2 hp (tup_new hd i (ok1.fresh hp).1)⟩)
theorem EvL.frz (h : EvL X e Δ M fun ds M' => k (.lst ds) M') : EvD X e Δ M k := fun F H σ Q hs ok post => h F H σ Q hs ok fun ds M' F' H' q vs hk st ok' f m n hq i => by
  refine post (.lst ds) M' (upd F' q (.lst vs)) H' (.ref q) hk ⟨st.ext.trans (same_new f), fun x o e => ?_, st.keep, st.dom, st.there⟩ ⟨fun x o e => ?_, fun x m' e => ?_⟩ (lst_new i f)
  · by_cases z : x = q
    · subst z; exact .inr (.inl n)
    · rw [upd_ne z] at e; exact st.new x o e
  · by_cases z : x = q
    · subst z; rw [upd_same] at e; cases e; exact .inl hq
    · rw [upd_ne z] at e; exact ok'.sub x o e
  · obtain ⟨h1, o, h2, h3⟩ := ok'.mem x m' e
    have z : x ≠ q := fun z => by rw [z, m] at e; cases e
    exact ⟨by rw [upd_ne z]; exact h1, o, h2, h3.mono (same_new f)⟩
theorem PostL.new {K : PySem.W.Frag} {F F1 : Hp} {M M1 : Store} {H H1 : Hp} {ka : AK} {Q : VK} {ds : List D} {vs : List V} (p : PostL K F M H ka Q) (st : Stp F M H F1 M1 H1) (ok : Ok K F1 M1 H1) (hk : ka ds M1) {q : Addr} (hq : H1 q = none) (i : IsL K F1 ds vs) : Q (.ref q) (upd H1 q (.lst vs)) := by
  have hn : H q = none := by
    cases z : H q with
    | none => rfl
    | some o => exact absurd hq (st.there q (by rw [z]; simp))
  refine p ds M1 F1 (upd H1 q (.lst vs)) q vs hk ⟨st.ext, st.new, fun x o e m => ?_, st.dom, fun x n => ?_⟩ ⟨fun x o e => ?_, fun x m e => ?_⟩ (ok.fresh hq).1 (ok.fresh hq).2 hn upd_same i
  · rw [upd_ne (ne_of_none e hn)]; exact st.keep x o e m
  · by_cases z : x = q
    · subst z; rw [upd_same]; simp
    · rw [upd_ne z]; exact st.there x n
  · have z : x ≠ q := fun z => by rw [z, (ok.fresh hq).1] at e; cases e
    rw [upd_ne z]; exact ok.sub x o e
  · have z : x ≠ q := fun z => by rw [z, (ok.fresh hq).2] at e; cases e
    obtain ⟨h1, o, h2, h3⟩ := ok.mem x m e
    exact ⟨h1, o, by rw [upd_ne z]; exact h2, h3⟩
theorem el_lst {ka : AK} (h : EvA X es Δ M fun ds M1 => ds.length ≤ sizeLine ∧ ka ds M1) : EvL X (.List es pos) Δ M ka := fun F H σ Q hs ok post =>
  sem_of (pe_lst pa_sem) (h F H σ _ hs ok fun ds M1 F1 H1 vs q st ok1 i => ⟨by rw [← i.length]; exact q.1, fun p hp => post.new st ok1 q.2 hp i⟩)
/-! ### items and slices -/
def strOf : D → Option Str
  | .str z => some z
  | _ => none
theorem strOf_is {K : PySem.W.Frag} {F : Hp} {d : D} {z : Str} {v : V} (h : strOf d = some z) (i : Is K F d v) : v = .str z := by
  unfold strOf at h
  split at h
  · cases h; exact is_str.1 i
  · cases h
def tupOf : D → Option (List D)
  | .tup z => some z
  | _ => none
theorem tupOf_is {d : D} {z : List D} (h : tupOf d = some z) : d = .tup z := by
  unfold tupOf at h
  split at h
  · cases h; rfl
  · cases h
/-- lists -/
def lsD (M : Store) : D → Option (List D)
  | .lst ds => some ds | .frl ds => some ds
  | .cell a => match M a with
    | some (.lst ds) => some ds
    | _ => none
  | _ => none
theorem ls_of {K : PySem.W.Frag} {F H : Hp} (ok : Ok K F M H) {d : D} {ds : List D} {v : V} (h : lsD M d = some ds) (i : Is K F d v) : ∃ a vs, v = .ref a ∧ SqL K H a vs ∧ IsL K F ds vs := by
  unfold lsD at h
  split at h
  · cases h; obtain ⟨a, vs, e, h1, h2⟩ := is_lst.1 i; exact ⟨a, vs, e, SqL.of (ok.lst h1), h2⟩
  · cases h; obtain ⟨a, vs, e, h1, h2⟩ := is_frl.1 i; exact ⟨a, vs, e, ok.sqL h1, h2⟩
  · rename_i a
    split at h
    · rename_i m xs e
      cases h
      obtain ⟨_, o, h1, vs, h2, h3⟩ := ok.mem a _ e
      subst h2
      exact ⟨a, vs, is_cell.1 i, SqL.of h1, h3⟩
    · cases h
  · cases h
def atD (M : Store) (d : D) (i : Int) : Option D := match strOf d with
  | some z => if z.length ≤ sizeLine then (atI z.cps.toList i).map fun c => .str ⟨#[c]⟩ else none
  | none => (seqD M d).bind fun ds => atI ds i
theorem atI_is {K : PySem.W.Frag} {F : Hp} {ds : List D} {vs : List V} {i : Int} {d : D} (h : IsL K F ds vs) (e : atI ds i = some d) : ∃ v, atI vs i = some v ∧ Is K F d v := by
  unfold atI at e ⊢
  rw [← h.length]
  obtain ⟨j, h1, h2⟩ := Option.bind_eq_some_iff.mp e
  obtain ⟨v, h3, h4⟩ := h.get h2
  exact ⟨v, Option.bind_eq_some_iff.mpr ⟨j, h1, h3⟩, h4⟩
theorem ev_ix (hs : PlainIx b) (h : EvD X a Δ M fun d1 M1 => EvD X b Δ M1 fun d2 M2 => ∃ i r, d2 = .int i ∧ atD M2 d1 i = some r ∧ k r M2) : EvD X (.Subscript a b pos) Δ M k := fun F H σ Q hS ok post =>
  sem_of (pe_ix ix_seq pe_sem pe_sem hs) (two h hS ok fun d1 d2 M' F' H' x y ⟨i, r, e, ha, hk⟩ st ok' i1 i2 => by
    subst e
    unfold atD at ha
    cases hz : strOf d1 with
    | some z =>
      rw [hz] at ha
      dsimp only at ha
      split at ha
      · rename_i hl
        obtain ⟨c, h1, h2⟩ := Option.map_eq_some_iff.mp ha
        subst h2
        exact .inr (.inr ⟨z, i, c, strOf_is hz i1, is_int.1 i2, hl, h1, (post.step st).here ok' hk (is_str.2 rfl)⟩)
      · cases ha
    | none =>
      rw [hz] at ha
      dsimp only at ha
      obtain ⟨ds, h1, h2⟩ := Option.bind_eq_some_iff.mp ha
      obtain ⟨p, vs, e, hq, hl⟩ := seq_of ok' h1 i1
      obtain ⟨v, h3, h4⟩ := atI_is hl h2
      have q := (post.step st).here ok' hk h4
      rcases hq with hq | hq
      · exact .inl ⟨p, vs, i, v, e, is_int.1 i2, hq, h3, q⟩
      · exact .inr (.inl ⟨p, vs, i, v, e, is_int.1 i2, hq, h3, q⟩))
def cutD (ds : List D) (lo hi : Option Int) : List D := (ds.drop (HT.sIx ds.length 0 lo)).take (HT.sIx ds.length ds.length hi - HT.sIx ds.length 0 lo)
theorem cut_is {K : PySem.W.Frag} {F : Hp} {ds : List D} {vs : List V} {lo hi : Option Int} (h : IsL K F ds vs) : IsL K F (cutD ds lo hi) (cutV vs lo hi) := by
  unfold cutD cutV
  rw [← h.length]
  exact (h.drop _).take _
def SlP (d : D) (lo hi : Option Int) (M : Store) (k : DK) : Prop := match strOf d, tupOf d with
  | some z, _ => z.length ≤ sizeLine ∧ k (.str (cutS z lo hi)) M
  | none, some ds => k (.tup (cutD ds lo hi)) M
  | none, none => ∃ ds, lsD M d = some ds ∧ k (.lst (cutD ds lo hi)) M
def rSlAll (K : PySem.W.Frag) : V → Option Int → Option Int → Hp → VK → Prop := fun x lo hi H Q => rSlL K x lo hi H Q ∨ rSlB K x lo hi H Q ∨ ∃ z, x = .str z ∧ z.length ≤ sizeLine ∧ Q (.str (cutS z lo hi)) H
theorem sl_all : SlR X (rSlAll X.K) := sl_list.or (sl_tupB.or sl_str)
theorem p_sl {F H : Hp} {d : D} {lo hi : Option Int} {x : V} {Q : VK} (h : SlP d lo hi M k) (ok : Ok X.K F M H) (i : Is X.K F d x) (post : Post X.K F M H k Q) : rSlAll X.K x lo hi H Q := by
  unfold SlP at h
  split at h
  · rename_i z e
    exact .inr (.inr ⟨_, strOf_is (by assumption) i, h.1, post.here ok h.2 (is_str.2 rfl)⟩)
  · rename_i ds e1 e2
    have e := tupOf_is e2
    subst e
    obtain ⟨p, vs, e, hq, hl⟩ := is_tup.1 i
    refine .inr (.inl ⟨p, vs, e, ok.sqT hq, ?_⟩)
    by_cases hw : HT.sIx vs.length 0 lo = 0 ∧ HT.sIx vs.length vs.length hi = vs.length
    rotate_left
    · rw [if_neg hw]
      exact fun q ob hq' hd => post.fresh ok h hq' (tup_new hd (cut_is hl) (ok.fresh hq').1)
    rw [if_pos hw]
    have ec : cutD ds lo hi = ds := by
      unfold cutD
      rw [hl.length, hw.1, hw.2, List.drop_zero, Nat.sub_zero, ← hl.length, List.take_length]
    rw [ec] at h
    exact post.here ok h (is_tup.2 ⟨p, vs, rfl, hq, hl⟩)
  · obtain ⟨ds, h1, hk⟩ := h
    obtain ⟨p, vs, e, hq, hl⟩ := ls_of ok h1 i
    exact .inl ⟨p, vs, e, hq, fun q hq' => post.fresh ok hk hq' (lst_new (cut_is hl) (ok.fresh hq').1)⟩
theorem ev_sl10 {p2 : Pos} (h : EvD X a Δ M fun d M1 => EvD X b Δ M1 fun d2 M2 => ∃ i, d2 = .int i ∧ SlP d (some i) none M2 k) : EvD X (.Subscript a (.Slice (some b) none none p2) pos) Δ M k := fun F H σ Q hs ok post =>
  sem_of (pe_slice sl_all pe_sem (po_some pe_sem) po_none) (two h hs ok fun d1 d2 M' F' H' x y ⟨i, e, q⟩ st ok' i1 i2 => by
    subst e
    exact ⟨i, is_int.1 i2, p_sl q ok' i1 (post.step st)⟩)
theorem ev_sl01 {p2 : Pos} (h : EvD X a Δ M fun d M1 => EvD X b Δ M1 fun d2 M2 => ∃ i, d2 = .int i ∧ SlP d none (some i) M2 k) : EvD X (.Subscript a (.Slice none (some b) none p2) pos) Δ M k := fun F H σ Q hs ok post =>
  sem_of (pe_slice sl_all pe_sem po_none (po_some pe_sem)) (two h hs ok fun d1 d2 M' F' H' x y ⟨i, e, q⟩ st ok' i1 i2 => by
    subst e
    exact ⟨i, is_int.1 i2, p_sl q ok' i1 (post.step st)⟩)
theorem ev_sl11 {c : Expr} {p2 : Pos} (h : EvD X a Δ M fun d M1 => EvD X b Δ M1 fun d2 M2 => ∃ i, d2 = .int i ∧ EvD X c Δ M2 fun d3 M3 => ∃ j, d3 = .int j ∧ SlP d (some i) (some j) M3 k) : EvD X (.Subscript a (.Slice (some b) (some c) none p2) pos) Δ M k := fun F H σ Q hs ok post =>
  sem_of (pe_slice sl_all pe_sem (po_some pe_sem) (po_some pe_sem)) (two h hs ok fun d1 d2 M' F' H' x y ⟨i, e, q⟩ st ok' i1 i2 => by
    subst e
    exact ⟨i, is_int.1 i2, q F' H' σ _ (hs.mono st.ext) ok' fun d3 M3 F3 H3 u ⟨j, e3, q3⟩ st3 ok3 i3 => by
      subst e3
      exact ⟨j, is_int.1 i3, p_sl q3 ok3 (i1.mono st3.ext) (post.step (st.trans st3))⟩⟩)
/-! ### built-ins by name -/
def PB (X : Cx) (r : List V → Hp → VK → Prop) (ds : List D) (M : Store) (k : DK) : Prop := ∀ F H vs Q, Ok X.K F M H → IsL X.K F ds vs → Post X.K F M H k Q → r vs H Q
def PBL (X : Cx) (r : List V → Hp → VK → Prop) (ds : List D) (M : Store) (k : AK) : Prop := ∀ F0 M0 H0 F H vs Q, Stp F0 M0 H0 F M H → Ok X.K F M H → IsL X.K F ds vs → PostL X.K F0 M0 H0 k Q → r vs H Q
theorem ev_callB {x : Str} {id : String} {r : List V → Hp → VK → Prop} {p : Pos} (hc : CallR X (.builtin id) r) (hg : Gl X x) (hm : X.mg x = none) (hv : bootBuiltins x = some (.builtin id)) (hn : x ≠ "__name__") (hdb : (x == ("__debug__" : Str)) = false)
    (he : starEach (e :: es) X.env = (false, eval e X.env) :: starEach es X.env) (hpl : (backTo pos (starEach es X.env)).any (·.1) = false) (h : EvA X (e :: es) Δ M fun ds M1 => PB X r ds M1 k) : EvD X (.Call (.Name x p) (e :: es) [] pos) Δ M k := fun F H σ Q hs ok post =>
  sem_of (pe_callB hc hg hm hv pa_sem hn hdb he hpl) (h F H σ _ hs ok fun ds M1 F1 H1 vs q st ok1 i => q F1 H1 vs Q ok1 i (post.step st))
end
end DL
end
section
set_option Elab.async false
set_option linter.all false
set_option maxRecDepth 100000
namespace DL
open PySem L2
section
variable {X : Cx} {a b e e2 : Expr} {es rest : List Expr} {Δ : DS} {M : Store} {k : DK} {kb : BK} {ka : AK} {p pos : Pos} {x : Str} {bid T : String} {r : List V → Hp → VK → Prop}
theorem ev_callT (hc : CallR X (.type T) r) (hg : Gl X x) (hm : X.mg x = none) (hv : bootBuiltins x = some (.type T)) (hn : x ≠ "__name__") (hdb : (x == ("__debug__" : Str)) = false)
    (he : starEach (e :: es) X.env = (false, eval e X.env) :: starEach es X.env) (hpl : (backTo pos (starEach es X.env)).any (·.1) = false) (h : EvA X (e :: es) Δ M fun ds M1 => PB X r ds M1 k) : EvD X (.Call (.Name x p) (e :: es) [] pos) Δ M k := fun F H σ Q hs ok post =>
  sem_of (pe_callTy hc hg hm hv pa_sem hn hdb he hpl) (h F H σ _ hs ok fun ds M1 F1 H1 vs q st ok1 i => q F1 H1 vs Q ok1 i (post.step st))
/-- fresh lists by a call -/
theorem el_callT (hc : CallR X (.type T) r) (hg : Gl X x) (hm : X.mg x = none) (hv : bootBuiltins x = some (.type T)) (hn : x ≠ "__name__") (hdb : (x == ("__debug__" : Str)) = false)
    (he : starEach (e :: es) X.env = (false, eval e X.env) :: starEach es X.env) (hpl : (backTo pos (starEach es X.env)).any (·.1) = false) (h : EvA X (e :: es) Δ M fun ds M1 => PBL X r ds M1 ka) : EvL X (.Call (.Name x p) (e :: es) [] pos) Δ M ka := fun F H σ Q hs ok post =>
  sem_of (pe_callTy hc hg hm hv pa_sem hn hdb he hpl) (h F H σ _ hs ok fun ds M1 F1 H1 vs q st ok1 i => q F M H F1 H1 vs Q st ok1 i post)
theorem el_callB (hc : CallR X (.builtin bid) r) (hg : Gl X x) (hm : X.mg x = none) (hv : bootBuiltins x = some (.builtin bid)) (hn : x ≠ "__name__") (hdb : (x == ("__debug__" : Str)) = false)
    (he : starEach (e :: es) X.env = (false, eval e X.env) :: starEach es X.env) (hpl : (backTo pos (starEach es X.env)).any (·.1) = false) (h : EvA X (e :: es) Δ M fun ds M1 => PBL X r ds M1 ka) : EvL X (.Call (.Name x p) (e :: es) [] pos) Δ M ka := fun F H σ Q hs ok post =>
  sem_of (pe_callB hc hg hm hv pa_sem hn hdb he hpl) (h F H σ _ hs ok fun ds M1 F1 H1 vs q st ok1 i => q F M H F1 H1 vs Q st ok1 i post)
theorem one1 {R : List D → Store → Prop} (h : EvD X e Δ M fun d M1 => R [d] M1) (hs : starEach [e] X.env = [(false, eval e X.env)]) : EvA X [e] Δ M R := ea_cons (h.mono fun _ _ q => ea_nil q) hs
theorem two2 {R : List D → Store → Prop} (h : EvD X e Δ M fun d M1 => EvD X e2 Δ M1 fun d2 M2 => R [d, d2] M2) (hs : starEach [e, e2] X.env = (false, eval e X.env) :: starEach [e2] X.env) (hs2 : starEach [e2] X.env = [(false, eval e2 X.env)]) : EvA X [e, e2] Δ M R :=
  ea_cons (h.mono fun _ _ q => one1 q hs2) hs
theorem isL1 {K : PySem.W.Frag} {F : Hp} {d : D} {vs : List V} (h : IsL K F [d] vs) : ∃ v, vs = [v] ∧ Is K F d v := by
  obtain ⟨v, r, rfl, h1, h2⟩ := isL_cons.1 h
  rw [isL_nil.1 h2]
  exact ⟨v, rfl, h1⟩
theorem isL2 {K : PySem.W.Frag} {F : Hp} {d d2 : D} {vs : List V} (h : IsL K F [d, d2] vs) : ∃ v v2, vs = [v, v2] ∧ Is K F d v ∧ Is K F d2 v2 := by
  obtain ⟨v, r, rfl, h1, h2⟩ := isL_cons.1 h
  obtain ⟨v2, rfl, h3⟩ := isL1 h2
  exact ⟨v, v2, rfl, h1, h3⟩
/-! len -/
def lenD (M : Store) (d : D) : Option Nat := match strOf d with
  | some z => if z.length ≤ sizeLine then some z.length else none
  | none => (seqD M d).map List.length
theorem ev_len (hg : Gl X "len") (hm : X.mg "len" = none) (h : EvD X e Δ M fun d M1 => ∃ n : Nat, lenD M1 d = some n ∧ k (.int n) M1) (hs : starEach [e] X.env = [(false, eval e X.env)] := by rfl) : EvD X (.Call (.Name "len" p) [e] [] pos) Δ M k :=
  ev_callB (call_len_seq.or call_len_str) hg hm PySem.boot_len (by decide) (by decide) hs rfl (one1 (h.mono fun d M1 ⟨n, h1, hk⟩ F H vs Q ok i post => by
    obtain ⟨v, rfl, iv⟩ := isL1 i
    unfold lenD at h1
    cases hz : strOf d with
    | some z =>
      rw [hz] at h1
      dsimp only at h1
      split at h1
      · cases h1
        rename_i hl
        exact .inr ⟨z, by rw [strOf_is hz iv], hl, post.here ok hk (is_int.2 rfl)⟩
      · cases h1
    | none =>
      rw [hz] at h1
      dsimp only at h1
      obtain ⟨ds, h2, h3⟩ := Option.map_eq_some_iff.mp h1
      obtain ⟨q, ws, rfl, hq, hl⟩ := seq_of ok h2 iv
      refine .inl ⟨q, ws, rfl, hq, post.here ok hk (is_int.2 ?_)⟩
      rw [← hl.length, h3]) hs)
/-! numbers -/
def NumP1 (g : Int → D) (d : D) (M : Store) (k : DK) : Prop := match d with
  | .int i => k (g i) M
  | _ => False
theorem ev_abs (hg : Gl X "abs") (hm : X.mg "abs" = none) (h : EvD X e Δ M fun d M1 => NumP1 (fun i => .int (if i < 0 then -i else i)) d M1 k) (hs : starEach [e] X.env = [(false, eval e X.env)] := by rfl) : EvD X (.Call (.Name "abs" p) [e] [] pos) Δ M k :=
  ev_callB call_abs hg hm (by decide +kernel) (by decide) (by decide) hs rfl (one1 (h.mono fun d M1 q F H vs Q ok i post => by
    obtain ⟨v, rfl, iv⟩ := isL1 i
    unfold NumP1 at q
    split at q
    · exact ⟨_, by rw [is_int.1 iv], post.here ok q (is_int.2 rfl)⟩
    · exact q.elim) hs)
def IntC (d : D) (M : Store) (k : DK) : Prop := match d with
  | .int i => k (.int i) M
  | .bl c => k (.int (if c then 1 else 0)) M
  | _ => False
theorem ev_intc (hg : Gl X "int") (hm : X.mg "int" = none) (h : EvD X e Δ M fun d M1 => IntC d M1 k) (hs : starEach [e] X.env = [(false, eval e X.env)] := by rfl) : EvD X (.Call (.Name "int" p) [e] [] pos) Δ M k :=
  ev_callT call_int1 hg hm (by decide +kernel) (by decide) (by decide) hs rfl (one1 (h.mono fun d M1 q F H vs Q ok i post => by
    obtain ⟨v, rfl, iv⟩ := isL1 i
    unfold IntC at q
    split at q
    · exact .inl ⟨_, by rw [is_int.1 iv], post.here ok q (is_int.2 rfl)⟩
    · exact .inr ⟨_, by rw [is_bl.1 iv], post.here ok q (is_int.2 rfl)⟩
    · exact q.elim) hs)
theorem ev_max2 (hc : X.calm = true) (hg : Gl X "max") (hm : X.mg "max" = none) (h : EvD X e Δ M fun d M1 => EvD X e2 Δ M1 fun d2 M2 => NumP (fun i j => .int (if j > i then j else i)) d d2 M2 k) (hs : starEach [e, e2] X.env = (false, eval e X.env) :: starEach [e2] X.env := by rfl) (hs2 : starEach [e2] X.env = [(false, eval e2 X.env)] := by rfl) (hpl : (backTo pos (starEach [e2] X.env)).any (·.1) = false := by rfl) : EvD X (.Call (.Name "max" p) [e, e2] [] pos) Δ M k :=
  ev_callB (call_max2 hc) hg hm (by decide +kernel) (by decide) (by decide) hs hpl (two2 (h.mono fun d M1 q => q.mono fun d2 M2 q2 F H vs Q ok i post => by
    obtain ⟨v, v2, rfl, i1, i2⟩ := isL2 i
    unfold NumP at q2
    split at q2
    · exact ⟨_, _, by rw [is_int.1 i1, is_int.1 i2], post.here ok q2 (is_int.2 rfl)⟩
    · exact q2.elim) hs hs2)
/-! sum, all, any of lists -/
theorem ev_sum (hc : X.calm = true) (hg : Gl X "sum") (hm : X.mg "sum" = none) (h : EvD X e Δ M fun d M1 => ∃ ns : List Int, lsD M1 d = some (ns.map D.int) ∧ k (.int ns.sum) M1) (hs : starEach [e] X.env = [(false, eval e X.env)] := by rfl) : EvD X (.Call (.Name "sum" p) [e] [] pos) Δ M k :=
  ev_callB (cr_sum hc) hg hm (by decide +kernel) (by decide) (by decide) hs rfl (one1 (h.mono fun d M1 ⟨ns, h1, hk⟩ F H vs Q ok i post => by
    obtain ⟨v, rfl, iv⟩ := isL1 i
    obtain ⟨q, ws, rfl, hq, hl⟩ := ls_of ok h1 iv
    rw [(IsL.ints ns).1 hl] at hq
    exact ⟨q, ns, rfl, hq, post.here ok hk (is_int.2 rfl)⟩) hs)
theorem ev_all (hc : X.calm = true) (hg : Gl X "all") (hm : X.mg "all" = none) (h : EvD X e Δ M fun d M1 => ∃ ns : List Bool, lsD M1 d = some (ns.map D.bl) ∧ k (.bl (ns.all id)) M1) (hs : starEach [e] X.env = [(false, eval e X.env)] := by rfl) : EvD X (.Call (.Name "all" p) [e] [] pos) Δ M k :=
  ev_callB (cr_all hc) hg hm (by decide +kernel) (by decide) (by decide) hs rfl (one1 (h.mono fun d M1 ⟨ns, h1, hk⟩ F H vs Q ok i post => by
    obtain ⟨v, rfl, iv⟩ := isL1 i
    obtain ⟨q, ws, rfl, hq, hl⟩ := ls_of ok h1 iv
    rw [(IsL.bls ns).1 hl] at hq
    exact ⟨q, ns, rfl, hq, post.here ok hk (is_bl.2 rfl)⟩) hs)
theorem ev_any (hc : X.calm = true) (hg : Gl X "any") (hm : X.mg "any" = none) (h : EvD X e Δ M fun d M1 => ∃ ns : List Bool, lsD M1 d = some (ns.map D.bl) ∧ k (.bl (ns.any id)) M1) (hs : starEach [e] X.env = [(false, eval e X.env)] := by rfl) : EvD X (.Call (.Name "any" p) [e] [] pos) Δ M k :=
  ev_callB (cr_any hc) hg hm (by decide +kernel) (by decide) (by decide) hs rfl (one1 (h.mono fun d M1 ⟨ns, h1, hk⟩ F H vs Q ok i post => by
    obtain ⟨v, rfl, iv⟩ := isL1 i
    obtain ⟨q, ws, rfl, hq, hl⟩ := ls_of ok h1 iv
    rw [(IsL.bls ns).1 hl] at hq
    exact ⟨q, ns, rfl, hq, post.here ok hk (is_bl.2 rfl)⟩) hs)
/-! sorted of ints, of texts: a fresh list -/
/-! list(x), tuple(x) of sequences -/
/-! isinstance of built-in kinds -/
def kt : String → String → Option Bool
  | "int", "int" => some true | "int", "bool" => some false | "int", "str" => some false | "int", "list" => some false | "int", "tuple" => some false
  | "bool", "int" => some true | "bool", "bool" => some true | "bool", "str" => some false | "bool", "list" => some false | "bool", "tuple" => some false
  | "str", "int" => some false | "str", "bool" => some false | "str", "str" => some true | "str", "list" => some false | "str", "tuple" => some false
  | "list", "int" => some false | "list", "bool" => some false | "list", "str" => some false | "list", "list" => some true | "list", "tuple" => some false
  | "tuple", "int" => some false | "tuple", "bool" => some false | "tuple", "str" => some false | "tuple", "list" => some false | "tuple", "tuple" => some true
  | "NoneType", "int" => some false | "NoneType", "bool" => some false | "NoneType", "str" => some false | "NoneType", "list" => some false | "NoneType", "tuple" => some false
  | _, _ => none
theorem kt_kit {s t : String} {c : Bool} (h : kt s t = some c) : kitB s t = some c := by
  unfold kt at h
  split at h <;> first | (cases h; decide +kernel) | cases h
def tyD : D → Option String
  | .non => some "NoneType" | .bl _ => some "bool" | .int _ => some "int" | .str _ => some "str" | .tup _ => some "tuple" | .lst _ => some "list"
  | _ => none
theorem ty_of {K : PySem.W.Frag} {F H : Hp} (ok : Ok K F M H) {d : D} {s : String} {v : V} (h : tyD d = some s) (i : Is K F d v) : TyX K H v (.type s) := by
  unfold tyD at h
  split at h
  · cases h; rw [is_non.1 i]; exact .base .non
  · cases h; rw [is_bl.1 i]; exact .base (.bl _)
  · cases h; rw [is_int.1 i]; exact .base (.int _)
  · cases h; rw [is_str.1 i]; exact .base (.str _)
  · cases h
    obtain ⟨q, ws, rfl, hq, hl⟩ := is_tup.1 i
    rcases hq with hq | ⟨o, _, its, n, h1, h2, h3⟩
    · obtain ⟨ob, _, e⟩ := ok.bare hq
      exact .fTuple e
    · exact .kTuple h1 h2
  · cases h
    obtain ⟨q, ws, rfl, hq, hl⟩ := is_lst.1 i
    exact .base (.lst (ok.lst hq))
  · cases h
theorem ev_isi (hg : Gl X "isinstance") (hm : X.mg "isinstance" = none) (h : EvD X e Δ M fun d M1 => EvD X e2 Δ M1 fun d2 M2 => ∃ s t c, tyD d = some s ∧ d2 = .ty t ∧ kt s t = some c ∧ k (.bl c) M2) (hs : starEach [e, e2] X.env = (false, eval e X.env) :: starEach [e2] X.env := by rfl) (hs2 : starEach [e2] X.env = [(false, eval e2 X.env)] := by rfl) (hpl : (backTo pos (starEach [e2] X.env)).any (·.1) = false := by rfl) : EvD X (.Call (.Name "isinstance" p) [e, e2] [] pos) Δ M k :=
  ev_callB call_isi hg hm (by decide +kernel) (by decide) (by decide) hs hpl (two2 (h.mono fun d M1 q => q.mono fun d2 M2 ⟨s, t, c, h1, h2, h3, hk⟩ F H vs Q ok i post => by
    obtain ⟨v, v2, rfl, i1, i2⟩ := isL2 i
    subst h2
    rw [is_ty.1 i2]
    exact ⟨v, .ty t, .type s, .type t, c, rfl, .ty t, ty_of ok h1 i1, kit_ty (kt_kit h3), post.here ok hk (is_bl.2 rfl)⟩) hs hs2)
def ktAny (s : String) : List String → Option Bool
  | [] => some false
  | t :: r => match kt s t with
    | some true => some true
    | some false => ktAny s r
    | none => none
theorem ktAny_kit {K : PySem.W.Frag} {s : String} : ∀ {ts : List String} {c : Bool}, ktAny s ts = some c → PySem.W.kitAny K (.type s) (ts.map Value.type) = some c
  | [], _, h => by unfold ktAny at h; cases h; rfl
  | t :: r, c, h => by
    unfold ktAny at h
    rw [List.map_cons]
    split at h
    · rename_i hk
      cases h
      exact kitAny_cons (kit_ty (kt_kit hk)) (fun z => by cases z) (fun _ => rfl)
    · rename_i hk
      exact kitAny_cons (kit_ty (kt_kit hk)) (fun _ => ktAny_kit h) (fun z => by cases z)
    · cases h
theorem tys_of {K : PySem.W.Frag} {F : Hp} : ∀ {ts : List String} {vs : List V}, IsL K F (ts.map D.ty) vs → Paired ClsV vs (ts.map Value.type)
  | [], _, i => by rw [isL_nil.1 i]; exact .nil
  | t :: r, _, i => by
    obtain ⟨v, w, rfl, i1, i2⟩ := isL_cons.1 i
    rw [is_ty.1 i1]
    exact .cons (.ty t) (tys_of i2)
theorem ev_isiT {p2 : Pos} {x1 : Nat} (hg : Gl X "isinstance") (hm : X.mg "isinstance" = none) (h : EvD X e Δ M fun d M1 => EvA X es Δ M1 fun ds M2 => ∃ s ts c, tyD d = some s ∧ ds = ts.map D.ty ∧ ts.length ≤ sizeLine ∧ ktAny s ts = some c ∧ k (.bl c) M2) (hs : starEach [e, .Tuple es x1 p2] X.env = (false, eval e X.env) :: starEach [.Tuple es x1 p2] X.env := by rfl) (hs2 : starEach [.Tuple es x1 p2] X.env = [(false, eval (.Tuple es x1 p2) X.env)] := by rfl) (hpl : (backTo pos (starEach [.Tuple es x1 p2] X.env)).any (·.1) = false := by rfl) : EvD X (.Call (.Name "isinstance" p) [e, .Tuple es x1 p2] [] pos) Δ M k := fun F H σ Q hS ok post => by
  refine sem_of (pe_callB call_isiT hg hm (by decide +kernel) (pa_cons pe_sem (pa_cons (pe_tup pa_sem) pa_nil hs2) hs) (by decide) (by decide) hs hpl) ?_
  refine h F H σ _ hS ok fun d M1 F1 H1 v q st ok1 i => q F1 H1 σ _ (hS.mono st.ext) ok1 fun ds M2 F2 H2 vs ⟨s, ts, c, h1, h2, h3, h4, hk⟩ st2 ok2 i2 => ?_
  subst h2
  refine ⟨by rw [← i2.length, List.length_map]; exact h3, fun t ht => ?_⟩
  have ok3 := ok2.new (o := .tup vs) ht
  have iv : Is X.K (upd F2 t (.tup vs)) d v := (i.mono st2.ext).mono (same_new (ok2.fresh ht).1)
  exact ⟨v, t, vs, .type s, ts.map Value.type, c, rfl, upd_same, tys_of i2, ty_of ok3.1 h1 iv, ktAny_kit h4, (post.step ((st.trans st2).trans ok3.2)).here ok3.1 hk (is_bl.2 rfl)⟩
theorem ev_tyn (hg : Gl X x) (hm : X.mg x = none) (hv : bootBuiltins x = some (.type T)) (hn : x ≠ "__name__") (hdb : (x == ("__debug__" : Str)) = false) (h : k (.ty T) M) : EvD X (.Name x pos) Δ M k :=
  ev_c (pe_bltn (v := .ty T) hg hm hv rfl hn hdb) (fun _ => is_ty.2 rfl) h
end
end DL
end
section
set_option Elab.async false
set_option linter.all false
set_option maxRecDepth 100000
namespace DL
open PySem L2
section
variable {X : Cx} {a b e e2 o : Expr} {es rest : List Expr} {Δ : DS} {M : Store} {k : DK} {kb : BK} {ka : AK} {p pos apos : Pos} {x : Str}
/-! ### cells: append, pop, x[i] = v -/
theorem cell_of {K : PySem.W.Frag} {F H : Hp} (ok : Ok K F M H) {q : Addr} {ds : List D} (h : M q = some (.lst ds)) : ∃ vs, H q = some (.lst vs) ∧ IsL K F ds vs := by
  obtain ⟨_, u, h1, vs, h2, h3⟩ := ok.mem q _ h
  subst h2
  exact ⟨vs, h1, h3⟩
/-! ### dicts -/
def keyOf : D → Option Key
  | .int i => some (.inl i)
  | .str x => some (.inr x)
  | _ => none
theorem key_is {K : PySem.W.Frag} {F : Hp} {d : D} {c : Key} {v : V} (h : keyOf d = some c) (i : Is K F d v) : v = kV c := by
  unfold keyOf at h
  split at h
  · cases h; exact is_int.1 i
  · cases h; exact is_str.1 i
  · cases h
def valD : List Key → List D → Key → Option D
  | c :: ks, d :: ds, q => if c = q then some d else valD ks ds q
  | _, _, _ => none
theorem val_is {K : PySem.W.Frag} {F : Hp} {q : Key} : ∀ {ks : List Key} {ds : List D} {vs : List V}, ks.length = ds.length → IsL K F ds vs → (∀ d, valD ks ds q = some d → ∃ v, valV (ks.zip vs) q = some v ∧ Is K F d v) ∧ (valD ks ds q = none → valV (ks.zip vs) q = none)
  | [], [], _, _, i => by
    rw [isL_nil.1 i]
    exact And.intro (fun d h => by unfold valD at h; cases h) (fun _ => rfl)
  | [], _ :: _, _, l, _ => by simp at l
  | _ :: _, [], _, l, _ => by simp at l
  | c :: ks, d :: ds, _, l, i => by
    obtain ⟨v, r, rfl, i1, i2⟩ := isL_cons.1 i
    have ih := val_is (q := q) (ks := ks) (ds := ds) (by simpa using l) i2
    unfold valD
    by_cases e : c = q
    · rw [if_pos e]
      have ev : valV ((c :: ks).zip (v :: r)) q = some v := by
        unfold valV
        rw [List.zip_cons_cons, List.find?_cons, decide_eq_true (show (c, v).1 = q from e)]
        rfl
      exact ⟨fun u h => by cases h; exact ⟨v, ev, i1⟩, fun h => by cases h⟩
    · rw [if_neg e]
      have ev : valV ((c :: ks).zip (v :: r)) q = valV (ks.zip r) q := by
        unfold valV
        rw [List.zip_cons_cons, List.find?_cons, decide_eq_false (show ¬ (c, v).1 = q from e)]
      rw [ev]
      exact ih
theorem dct_rd {K : PySem.W.Frag} {F H : Hp} (ok : Ok K F M H) {ks : List Key} {ds : List D} {v : V} (i : Is K F (.dct ks ds) v) : ∃ q vs, v = .ref q ∧ Rd H q (.dK (ks.zip vs)) ∧ ks.length = ds.length ∧ IsL K F ds vs := by
  obtain ⟨q, vs, od, e, h1, h2, h3⟩ := is_dct.1 i
  exact ⟨q, vs, e, ok.rd h1, h2, h3⟩
/-- d[k] -/
theorem ev_dix (hu : X.A.units + 1 < cLine) (hs : NoSl b) (h : EvD X a Δ M fun d1 M1 => EvD X b Δ M1 fun d2 M2 => ∃ ks ds c r, d1 = .dct ks ds ∧ keyOf d2 = some c ∧ valD ks ds c = some r ∧ k r M2) : EvD X (.Subscript a b pos) Δ M k := fun F H σ Q hS ok post =>
  sem_of (pe_dget hu pe_sem pe_sem hs) (two h hS ok fun d1 d2 M' F' H' u y ⟨ks, ds, c, r, e1, e2, e3, hk⟩ st ok' i1 i2 => by
    subst e1
    obtain ⟨q, vs, e, hq, hl, il⟩ := dct_rd ok' i1
    obtain ⟨v, h1, h2⟩ := (val_is hl il).1 r e3
    exact ⟨q, v, e, .inl ⟨_, c, hq, key_is e2 i2, h1.symm⟩, (post.step st).here ok' hk h2⟩)
/-- d.get(k, x) -/
theorem ev_get2 (hu : X.A.units + 1 < cLine) (h : EvD X o Δ M fun d M1 => ∃ ks ds, d = .dct ks ds ∧ EvD X e Δ M1 fun d2 M2 => ∃ c, keyOf d2 = some c ∧ EvD X e2 Δ M2 fun d3 M3 => k ((valD ks ds c).getD d3) M3) (m : M2 X o "get" apos e e2 pos := by exact ⟨rfl, rfl, rfl, rfl⟩) :
    EvD X (.Call (.Attribute o "get" apos) [e, e2] [] pos) Δ M k := fun F H σ Q hS ok post => by
  refine sem_of (pe_dget2 hu pe_sem pe_sem pe_sem m) ?_
  refine h F H σ _ hS ok fun d M1 F1 H1 v ⟨ks, ds, ed, h2⟩ st ok1 i => ?_
  subst ed
  obtain ⟨q, vs, rfl, hq, hl, il⟩ := dct_rd ok1 i
  refine ⟨q, rfl, .inl ⟨_, hq⟩, h2 F1 H1 σ _ (hS.mono st.ext) ok1 fun d2 M2 F2 H2 y ⟨c, hc, h3⟩ st2 ok2 i2 => h3 F2 H2 σ _ ((hS.mono st.ext).mono st2.ext) ok2 fun d3 M3 F3 H3 z hk st3 ok3 i3 => ?_⟩
  obtain ⟨q', vs', e', hq', hl', il'⟩ := dct_rd ok3 ((i.mono st2.ext).mono st3.ext)
  cases e'
  have w := val_is (q := c) hl' il'
  refine ⟨valV (ks.zip vs') c, .inl ⟨_, c, hq', key_is hc i2, rfl⟩, ?_⟩
  have st' := (st.trans st2).trans st3
  cases hv : valD ks ds c with
  | some r =>
    obtain ⟨u, h1, h2⟩ := w.1 r hv
    rw [h1]
    rw [hv] at hk
    exact (post.step st').here ok3 hk h2
  | none =>
    rw [w.2 hv]
    rw [hv] at hk
    exact (post.step st').here ok3 hk i3
def DInP (neg : Bool) (d1 d2 : D) (M : Store) (k : DK) : Prop := ∃ ks ds c, d2 = .dct ks ds ∧ keyOf d1 = some c ∧ k (.bl (if neg then !(valD ks ds c).isSome else (valD ks ds c).isSome)) M
theorem some_is {K : PySem.W.Frag} {F : Hp} {q : Key} {ks : List Key} {ds : List D} {vs : List V} (l : ks.length = ds.length) (i : IsL K F ds vs) : (valV (ks.zip vs) q).isSome = (valD ks ds q).isSome := by
  cases hv : valD ks ds q with
  | some r =>
    obtain ⟨u, h1, h2⟩ := (val_is l i).1 r hv
    rw [h1]; rfl
  | none => rw [(val_is l i).2 hv]; rfl
/-! ### iterables -/
structure ItRep (K : PySem.W.Frag) (J : It) (ds : List D) (F : Hp) (M : Store) (H : Hp) : Prop where
  go : ∀ i F' M' H', Stp F M H F' M' H' → Ok K F' M' H' → i < ds.length → J.go i H'
  yld : ∀ i F' M' H' v H2, Stp F M H F' M' H' → Ok K F' M' H' → i < ds.length → J.yld i H' v H2 → ∃ F2 d, ds[i]? = some d ∧ Stp F' M' H' F2 M' H2 ∧ Ok K F2 M' H2 ∧ Is K F2 d v
  stop : ∀ F' M' H', Stp F M H F' M' H' → Ok K F' M' H' → J.stop ds.length H'
def ItD (X : Cx) (tg e : Expr) (Δ : DS) (M : Store) (k : AK) : Prop := ∀ F H σ (R : It → Hp → Prop), IsS X.K F Δ σ → Ok X.K F M H → (∀ ds M' F' H' J, k ds M' → Stp F M H F' M' H' → Ok X.K F' M' H' → ItRep X.K J ds F' M' H' → R J H') → SemI X tg e σ H R
variable {tg : Expr}
theorem ItD.mono {kc : AK} (h : ItD X tg e Δ M ka) (hk : ∀ d M', ka d M' → kc d M') : ItD X tg e Δ M kc := fun F H σ R hs ok post => h F H σ R hs ok fun ds M' F' H' J q => post ds M' F' H' J (hk ds M' q)
theorem rep_list {K : PySem.W.Frag} {F H : Hp} {q : Addr} {vs : List V} {ds : List D} (hq : F q = some (.lst vs)) (il : IsL K F ds vs) : ItRep K (Itl K q) ds F M H where
  go := fun i F' M' H' st ok hi => ⟨vs, vs[i]'(by rw [← il.length]; exact hi), SqL.of (ok.lst (st.ext _ _ hq)), List.getElem?_eq_getElem _⟩
  yld := fun i F' M' H' v H2 st ok hi y => by
    obtain ⟨e, y⟩ := y
    subst e
    have g := y vs (SqL.of (ok.lst (st.ext _ _ hq)))
    obtain ⟨d, h1, h2⟩ := (il.mono st.ext).get' g
    exact ⟨F', d, h1, Stp.refl, ok, h2⟩
  stop := fun F' M' H' st ok => ⟨vs, SqL.of (ok.lst (st.ext _ _ hq)), by rw [il.length]; exact Nat.le_refl _⟩
theorem rep_frl {K : PySem.W.Frag} {F H : Hp} {q : Addr} {vs : List V} {ds : List D} (hq : SqL K F q vs) (il : IsL K F ds vs) : ItRep K (Itl K q) ds F M H where
  go := fun i F' M' H' st ok hi => ⟨vs, vs[i]'(by rw [← il.length]; exact hi), ok.sqL (st.ext.seq hq), List.getElem?_eq_getElem _⟩
  yld := fun i F' M' H' v H2 st ok hi y => by
    obtain ⟨e, y⟩ := y
    subst e
    have g := y vs (ok.sqL (st.ext.seq hq))
    obtain ⟨d, h1, h2⟩ := (il.mono st.ext).get' g
    exact ⟨F', d, h1, Stp.refl, ok, h2⟩
  stop := fun F' M' H' st ok => ⟨vs, ok.sqL (st.ext.seq hq), by rw [il.length]; exact Nat.le_refl _⟩
theorem rep_tup {K : PySem.W.Frag} {F H : Hp} {q : Addr} {vs : List V} {ds : List D} (hq : SqU K F q vs) (il : IsL K F ds vs) : ItRep K (Itt K q) ds F M H where
  go := fun i F' M' H' st ok hi => ⟨vs, vs[i]'(by rw [← il.length]; exact hi), ok.sqT (sqT_mono st.ext hq), List.getElem?_eq_getElem _⟩
  yld := fun i F' M' H' v H2 st ok hi y => by
    obtain ⟨e, y⟩ := y
    subst e
    have g := y vs (ok.sqT (sqT_mono st.ext hq))
    obtain ⟨d, h1, h2⟩ := (il.mono st.ext).get' g
    exact ⟨F', d, h1, Stp.refl, ok, h2⟩
  stop := fun F' M' H' st ok => ⟨vs, ok.sqT (sqT_mono st.ext hq), by rw [il.length]; exact Nat.le_refl _⟩
/-- ranges -/
def rngD (lo : Int) (n : Nat) : List D := (List.range n).map fun i => .int (lo + (i : Nat))
theorem rep_rng {K : PySem.W.Frag} {F H : Hp} {lo : Int} {n : Nat} : ItRep K (Itr lo n) (rngD lo n) F M H where
  go := fun i F' M' H' st ok hi => by
    unfold rngD at hi
    rw [List.length_map, List.length_range] at hi
    exact hi
  yld := fun i F' M' H' v H2 st ok hi y => by
    obtain ⟨e, y⟩ := y
    subst e y
    unfold rngD at hi ⊢
    rw [List.length_map, List.length_range] at hi
    refine ⟨F', .int (lo + i), ?_, Stp.refl, ok, is_int.2 rfl⟩
    rw [List.getElem?_map, List.getElem?_range hi]
    rfl
  stop := fun F' M' H' st ok => by
    unfold rngD
    rw [List.length_map, List.length_range]
    exact Nat.le_refl _
theorem it_range1 (hg : Gl X "range") (hm : X.mg "range" = none) (h : EvD X e Δ M fun d M1 => ∃ j : Int, d = .int j ∧ (-(2 ^ 62) ≤ j ∧ j < 2 ^ 62) ∧ ka (rngD 0 j.toNat) M1) (hs : starEach [e] X.env = [(false, eval e X.env)] := by rfl) : ItD X tg (.Call (.Name "range" p) [e] [] pos) Δ M ka := fun F H σ R hS ok post =>
  semI_of (pi_range1 hg hm (pa_cons pe_sem pa_nil hs) hs) (h F H σ _ hS ok fun d M1 F1 H1 v ⟨j, ed, hb, hk⟩ st ok1 i => by
    subst ed
    exact ⟨j, by rw [is_int.1 i], hb.1, hb.2, post _ M1 F1 H1 _ hk st ok1 rep_rng⟩)
/-- the signs of a text -/
def signs (z : Str) : List D := z.cps.toList.map fun c => .str ⟨#[c]⟩
theorem rep_str {K : PySem.W.Frag} {F H : Hp} {z : Str} : ItRep K (Its z) (signs z) F M H where
  go := fun i F' M' H' st ok hi => by
    unfold signs at hi
    rw [List.length_map, Array.length_toList] at hi
    exact hi
  yld := fun i F' M' H' v H2 st ok hi y => by
    obtain ⟨e, c, hc, y⟩ := y
    subst e y
    refine ⟨F', .str ⟨#[c]⟩, ?_, Stp.refl, ok, is_str.2 rfl⟩
    unfold signs
    rw [List.getElem?_map, Array.getElem?_toList, hc]
    rfl
  stop := fun F' M' H' st ok => by
    unfold signs
    rw [List.length_map, Array.length_toList]
    exact Nat.le_refl _
/-- enumerate of a list -/
def enumD (ds : List D) : List D := ds.zipIdx.map fun q => .tup [.int (q.2 : Nat), q.1]
theorem enumD_len (ds : List D) : (enumD ds).length = ds.length := by unfold enumD; rw [List.length_map, List.length_zipIdx]
theorem enumD_get {ds : List D} {i : Nat} {d : D} (h : ds[i]? = some d) : (enumD ds)[i]? = some (.tup [.int (i : Nat), d]) := by
  unfold enumD
  rw [List.getElem?_map, List.getElem?_zipIdx, h]
  simp
theorem pair_new {K : PySem.W.Frag} {F H : Hp} (ok : Ok K F M H) {d1 d2 : D} {x y : V} (i1 : Is K F d1 x) (i2 : Is K F d2 y) {T : Addr} (hT : H T = none) {ob : Obj} (hd : ob.dict = none) :
    Stp F M H (upd F T (.frz ob (.tup [x, y]))) M (upd H T (.frz ob (.tup [x, y]))) ∧ Ok K (upd F T (.frz ob (.tup [x, y]))) M (upd H T (.frz ob (.tup [x, y]))) ∧ Is K (upd F T (.frz ob (.tup [x, y]))) (.tup [d1, d2]) (.ref T) :=
  ⟨(ok.new hT).2, (ok.new hT).1, tup_new hd (IsL.cons i1 (IsL.cons i2 IsL.nil)) (ok.fresh hT).1⟩
theorem rep_enum {K : PySem.W.Frag} {F H : Hp} {q : Addr} {vs : List V} {ds : List D} (hq : SqL K F q vs) (il : IsL K F ds vs) : ItRep K (IteB K q) (enumD ds) F M H where
  go := fun i F' M' H' st ok hi => ⟨vs, vs[i]'(by rw [← il.length, ← enumD_len]; exact hi), ok.sqL (st.ext.seq hq), List.getElem?_eq_getElem _⟩
  yld := fun i F' M' H' v H2 st ok hi y => by
    obtain ⟨T, ob, _, rfl, hT, hd, rfl, u, rfl, y⟩ := y
    obtain ⟨d, h1, h2⟩ := (il.mono st.ext).get' (y vs (ok.sqL (st.ext.seq hq)))
    have n := pair_new ok (is_int.2 rfl : Is K F' (.int (i : Nat)) _) h2 hT hd
    exact ⟨_, _, enumD_get h1, n.1, n.2.1, n.2.2⟩
  stop := fun F' M' H' st ok => ⟨vs, ok.sqL (st.ext.seq hq), by rw [enumD_len, il.length]; exact Nat.le_refl _⟩
variable {elts : List Expr} {kk : Nat} {tpos : Pos}
/-- zip of two lists, of two tuples -/
def zipD (ds es : List D) : List D := (ds.zip es).map fun q => .tup [q.1, q.2]
theorem zipD_len (ds es : List D) : (zipD ds es).length = min ds.length es.length := by unfold zipD; rw [List.length_map, List.length_zip]
theorem zipD_get {ds es : List D} {i : Nat} {d c : D} (h : ds[i]? = some d) (h2 : es[i]? = some c) : (zipD ds es)[i]? = some (.tup [d, c]) := by
  unfold zipD
  have z : (ds.zip es)[i]? = some (d, c) := List.getElem?_zip_eq_some.mpr ⟨h, h2⟩
  rw [List.getElem?_map, z]
  rfl
theorem rep_zip {K : PySem.W.Frag} {F H : Hp} {q t : Addr} {vs ws : List V} {ds es : List D} (hq : SqL K F q vs) (il : IsL K F ds vs) (ht : SqL K F t ws) (jl : IsL K F es ws) : ItRep K (ItzB K q t) (zipD ds es) F M H where
  go := fun i F' M' H' st ok hi => by
    rw [zipD_len] at hi
    exact ⟨vs, ws, vs[i]'(by rw [← il.length]; omega), ws[i]'(by rw [← jl.length]; omega), ok.sqL (st.ext.seq hq), ok.sqL (st.ext.seq ht), List.getElem?_eq_getElem _, List.getElem?_eq_getElem _⟩
  yld := fun i F' M' H' v H2 st ok hi y => by
    obtain ⟨T, ob, _, rfl, hT, hd, rfl, u, w, rfl, y, z⟩ := y
    obtain ⟨d, h1, h2⟩ := (il.mono st.ext).get' (y vs (ok.sqL (st.ext.seq hq)))
    obtain ⟨c, h3, h4⟩ := (jl.mono st.ext).get' (z ws (ok.sqL (st.ext.seq ht)))
    have n := pair_new ok h2 h4 hT hd
    exact ⟨_, _, zipD_get h1 h3, n.1, n.2.1, n.2.2⟩
  stop := fun F' M' H' st ok => ⟨vs, ws, ok.sqL (st.ext.seq hq), ok.sqL (st.ext.seq ht), by rw [zipD_len, ← il.length, ← jl.length]; omega⟩
theorem rep_zipT {K : PySem.W.Frag} {F H : Hp} {q t : Addr} {vs ws : List V} {ds es : List D} (hq : SqU K F q vs) (il : IsL K F ds vs) (ht : SqU K F t ws) (jl : IsL K F es ws) : ItRep K (ItzTB K q t) (zipD ds es) F M H where
  go := fun i F' M' H' st ok hi => by
    rw [zipD_len] at hi
    exact ⟨vs, ws, vs[i]'(by rw [← il.length]; omega), ws[i]'(by rw [← jl.length]; omega), ok.sqT (sqT_mono st.ext hq), ok.sqT (sqT_mono st.ext ht), List.getElem?_eq_getElem _, List.getElem?_eq_getElem _⟩
  yld := fun i F' M' H' v H2 st ok hi y => by
    obtain ⟨T, ob, _, rfl, hT, hd, rfl, u, w, rfl, y, z⟩ := y
    obtain ⟨d, h1, h2⟩ := (il.mono st.ext).get' (y vs (ok.sqT (sqT_mono st.ext hq)))
    obtain ⟨c, h3, h4⟩ := (jl.mono st.ext).get' (z ws (ok.sqT (sqT_mono st.ext ht)))
    have n := pair_new ok h2 h4 hT hd
    exact ⟨_, _, zipD_get h1 h3, n.1, n.2.1, n.2.2⟩
  stop := fun F' M' H' st ok => ⟨vs, ws, ok.sqT (sqT_mono st.ext hq), ok.sqT (sqT_mono st.ext ht), by rw [zipD_len, ← il.length, ← jl.length]; omega⟩
theorem it_zip (hg : Gl X "zip") (hm : X.mg "zip" = none) (h : EvD X e Δ M fun d M1 => EvD X e2 Δ M1 fun d2 M2 => ∃ ds es, ((d = .lst ds ∧ d2 = .lst es) ∨ (d = .tup ds ∧ d2 = .tup es)) ∧ ka (zipD ds es) M2) (hs : starEach [e, e2] X.env = (false, eval e X.env) :: starEach [e2] X.env := by rfl) (hs2 : starEach [e2] X.env = [(false, eval e2 X.env)] := by rfl) (hpl : (backTo pos (starEach [e2] X.env)).any (·.1) = false := by rfl) : ItD X (.Tuple elts kk tpos) (.Call (.Name "zip" p) [e, e2] [] pos) Δ M ka := fun F H σ R hS ok post =>
  semI_of (pi_zipB hg hm (pa_cons pe_sem (pa_cons pe_sem pa_nil hs2) hs) hs hpl) (two h hS ok fun d1 d2 M' F' H' u y ⟨ds, es, ed, hk⟩ st ok' i1 i2 => by
    rcases ed with ⟨e1, e2⟩ | ⟨e1, e2⟩
    · subst e1 e2
      obtain ⟨q, vs, rfl, hq, il⟩ := is_lst.1 i1
      obtain ⟨t, ws, rfl, ht, jl⟩ := is_lst.1 i2
      exact ⟨q, t, vs, ws, rfl, .inl ⟨SqL.of (ok'.lst hq), SqL.of (ok'.lst ht), post _ M' F' H' _ hk st ok' (rep_zip (SqL.of hq) il (SqL.of ht) jl)⟩⟩
    · subst e1 e2
      obtain ⟨q, vs, rfl, hq, il⟩ := is_tup.1 i1
      obtain ⟨t, ws, rfl, ht, jl⟩ := is_tup.1 i2
      exact ⟨q, t, vs, ws, rfl, .inr ⟨ok'.sqT hq, ok'.sqT ht, post _ M' F' H' _ hk st ok' (rep_zipT hq il ht jl)⟩⟩)
end
end DL
end
section
set_option Elab.async false
set_option linter.all false
set_option maxRecDepth 100000
namespace DL
open PySem L2
/-! ### targets -/
theorem wipe_set_out {σ : L2.St} {i : Nat} {x : Option V} : ∀ {vs : List Nat}, i ∉ vs → wipe (σ.set i x) vs = (wipe σ vs).set i x
  | [], _ => rfl
  | v :: vs, h => by
    have h1 : i ≠ v := fun z => h (by rw [z]; exact List.mem_cons_self)
    have h2 : i ∉ vs := fun z => h (List.mem_cons_of_mem _ z)
    unfold wipe
    rw [wipe_set_out h2, List.set_comm _ _ h1]
theorem wipe_set {σ : L2.St} {i : Nat} {x : Option V} : ∀ {vs : List Nat}, i ∈ vs → wipe (σ.set i x) vs = wipe σ vs
  | [], h => by cases h
  | v :: vs, h => by
    unfold wipe
    by_cases z : i ∈ vs
    · rw [wipe_set z]
    · have e : i = v := by
        rcases List.mem_cons.mp h with e | e
        · exact e
        · exact absurd e z
      subst e
      rw [wipe_set_out z, List.set_set]
def wipeD (Δ : DS) : List Nat → DS
  | [] => Δ
  | v :: vs => (wipeD Δ vs).set v none
theorem IsS.none {K : PySem.W.Frag} {F : Hp} {Δ : DS} {σ : L2.St} (h : IsS K F Δ σ) (i : Nat) : IsS K F (Δ.set i none) (σ.set i none) := by
  refine ⟨by rw [List.length_set, List.length_set]; exact h.1, fun j e q => ?_⟩
  by_cases z : j = i
  · subst z
    have hj : j < Δ.length := by
      by_cases hj : j < Δ.length
      · exact hj
      · rw [List.getElem?_eq_none (by rw [List.length_set]; omega)] at q; cases q
    rw [List.getElem?_set_self hj] at q
    cases q
  · rw [List.getElem?_set_ne (Ne.symm z)] at q ⊢
    exact h.2 j e q
theorem IsS.wipe {K : PySem.W.Frag} {F : Hp} {Δ : DS} {σ : L2.St} (h : IsS K F Δ σ) : ∀ vs : List Nat, IsS K F (wipeD Δ vs) (L2.wipe σ vs)
  | [] => h
  | v :: vs => (IsS.wipe h vs).none v
def GdD (X : Cx) (tg : Expr) (d : D) (Δ Δ' : DS) (sl : List Nat) : Prop := ∀ F M H σ v (Q : L2.St → Hp → Prop), IsS X.K F Δ σ → Ok X.K F M H → Is X.K F d v →
  (∀ σ', IsS X.K F Δ' σ' → (∀ vs : List Nat, (∀ j ∈ sl, j ∈ vs) → wipe σ' vs = wipe σ vs) → Q σ' H) → SemG X tg v σ H Q
def GdsD (X : Cx) (tgs : List Expr) (ds : List D) (Δ Δ' : DS) (sl : List Nat) : Prop := ∃ t, PGs X tgs t ∧ ∀ F M H σ vs (Q : L2.St → Hp → Prop), IsS X.K F Δ σ → Ok X.K F M H → IsL X.K F ds vs →
  (∀ σ', IsS X.K F Δ' σ' → (∀ vs : List Nat, (∀ j ∈ sl, j ∈ vs) → wipe σ' vs = wipe σ vs) → Q σ' H) → t vs σ H Q
section
variable {X : Cx} {a b e e2 o tg tg2 : Expr} {es tgs : List Expr} {Δ Δ1 Δ2 : DS} {M : Store} {k : DK} {kb : BK} {ka : AK} {ks : KS} {p pos apos : Pos} {x : Str} {d d1 d2 : D} {sl sl2 : List Nat}
theorem gd_name {i : Nat} (hN : X.N.Nodup) (hi : X.N[i]? = some x) (hx : Loc X.env.scope x) (hf : X.fn x = true ∨ X.env.scope.names.lookup x = some .local) : GdD X (.Name x pos) d Δ (Δ.set i (some d)) [i] := fun F M H σ v Q hS ok iv h =>
  semG_of (pg_name hN hi hx hf) (h _ (hS.set i iv) fun vs hv => wipe_set (hv i (by simp)))
theorem gds_nil : GdsD X [] [] Δ Δ [] := ⟨_, pgs_nil, fun F M H σ vs Q hS ok il h => ⟨isL_nil.1 il, h σ hS fun _ _ => rfl⟩⟩
theorem gds_cons {ds : List D} (h1 : GdD X tg d Δ Δ1 sl) (h2 : GdsD X tgs ds Δ1 Δ2 sl2) (hs : (assignEach (tg :: tgs) X.env).map (·.2) = assign tg X.env :: (assignEach tgs X.env).map (·.2) := by rfl) : GdsD X (tg :: tgs) (d :: ds) Δ Δ2 (sl ++ sl2) := by
  obtain ⟨t, ht, q⟩ := h2
  refine ⟨_, pgs_cons pg_sem ht hs, fun F M H σ vs Q hS ok il h => ?_⟩
  obtain ⟨v, r, rfl, i1, i2⟩ := isL_cons.1 il
  exact ⟨v, r, rfl, h1 F M H σ v _ hS ok i1 fun σ1 hS1 w1 => q F M H σ1 r Q hS1 ok i2 fun σ2 hS2 w2 => h σ2 hS2 fun vs hv =>
    (w2 vs fun j hj => hv j (List.mem_append_right _ hj)).trans (w1 vs fun j hj => hv j (List.mem_append_left _ hj))⟩
theorem gd_tup {n : Nat} {ds : List D} {kt : Nat} (hc : X.calm = true) (h : GdsD X tgs ds Δ Δ1 sl) (hl : ds.length = n) (hn : (assignEach tgs X.env).length = n := by rfl) (hst : (assignEach tgs X.env).findIdx? (·.1) = none := by rfl) : GdD X (.Tuple tgs kt pos) (.tup ds) Δ Δ1 sl := by
  obtain ⟨t, ht, q⟩ := h
  refine fun F M H σ v Q hS ok iv h => semG_of (pg_tup hc ht hn hst) ?_
  obtain ⟨a, vs, e, hq, il⟩ := is_tup.1 iv
  exact ⟨a, vs, e, ok.sqT hq, by rw [← il.length]; exact hl, q F M H σ vs Q hS ok il h⟩
theorem gd_lst {n : Nat} {ds : List D} {kt : Nat} (hc : X.calm = true) (h : GdsD X tgs ds Δ Δ1 sl) (hl : ds.length = n) (hn : (assignEach tgs X.env).length = n := by rfl) (hst : (assignEach tgs X.env).findIdx? (·.1) = none := by rfl) : GdD X (.Tuple tgs kt pos) (.lst ds) Δ Δ1 sl := by
  obtain ⟨t, ht, q⟩ := h
  refine fun F M H σ v Q hS ok iv h => semG_of (pg_lst hc ht hn hst) ?_
  obtain ⟨a, vs, e, hq, il⟩ := is_lst.1 iv
  exact ⟨a, vs, e, SqL.of (ok.lst hq), by rw [← il.length]; exact hl, q F M H σ vs Q hS ok il h⟩
/-! ### comprehensions -/
/-- the tests of a clause -/
def TsD (X : Cx) (ifs : List Expr) (Δ : DS) (M : Store) (k : BK) : Prop := match ifs with
  | [] => k true M
  | [c] => TeD X c Δ M k
  | _ => False
abbrev Blk (X : Cx) (scope : Scope) (s : Shared) (H : Hp) (C : Addr) (cl : List (Str × Addr)) (fp : List Addr) : Cx := X.blk s H scope (compEnvC scope cl C X.env) fp
/-- one turn's body, in whatever frame -/
def tBlkG (X : Cx) (scope : Scope) (tg : Expr) : TG := fun v σ H Q => ∀ s H0 C cl fp, SemG (Blk X scope s H0 C cl fp) tg v σ H Q
def tBlkE (X : Cx) (scope : Scope) (e : Expr) : TE := fun σ H Q => ∀ s H0 C cl fp, Sem (Blk X scope s H0 C cl fp) e σ H Q
def tBlkT (X : Cx) (scope : Scope) (ifs : List Expr) : TT := match ifs with
  | [] => tYes
  | [c] => fun σ H Q => ∀ s H0 C cl fp, SemT (Blk X scope s H0 C cl fp) c σ H Q
  | _ => fun _ _ _ => False
theorem ptsB {scope : Scope} {ifs : List Expr} (s : Shared) (H0 : Hp) (C : Addr) (cl : List (Str × Addr)) (fp : List Addr) (h : ifs.length ≤ 1) : PTs (Blk X scope s H0 C cl fp) ifs (tBlkT X scope ifs) := by
  match ifs, h with
  | [], _ => exact pts_nil
  | [c], _ => exact pts_one ⟨fun pins s' σ H Q I h => h s H0 C cl fp pins s' I⟩
theorem pgB {scope : Scope} (s : Shared) (H0 : Hp) (C : Addr) (cl : List (Str × Addr)) (fp : List Addr) : PG (Blk X scope s H0 C cl fp) tg (tBlkG X scope tg) := ⟨fun pins s' σ H v u Q I r h => h s H0 C cl fp pins s' u I r⟩
theorem peB {scope : Scope} (s : Shared) (H0 : Hp) (C : Addr) (cl : List (Str × Addr)) (fp : List Addr) : PE (Blk X scope s H0 C cl fp) e (tBlkE X scope e) := ⟨fun pins s' σ H Q I h => h s H0 C cl fp pins s' I⟩
/-- what a list comprehension asks, of the items -/
def LcQ (X : Cx) (scope : Scope) (elt tg : Expr) (ifs : List Expr) (vs : List Nat) (Δ : DS) (k : AK) : AK := fun ds M1 => ∃ I : Nat → List D → Store → Prop, I 0 [] M1 ∧
    (∀ i d acc M', ds[i]? = some d → I i acc M' → acc.length < sizeLine ∧ ∃ Δ1 sl, (∀ j ∈ sl, j ∈ vs) ∧ (∀ s H C cl fp, GdD (Blk X scope s H C cl fp) tg d (wipeD Δ vs) Δ1 sl) ∧
      ∃ kb : BK, (∀ s H C cl fp, TsD (Blk X scope s H C cl fp) ifs Δ1 M' kb) ∧
        ∀ c M2, kb c M2 → if c = true then ∃ ke : DK, (∀ s H C cl fp, EvD (Blk X scope s H C cl fp) elt Δ1 M2 ke) ∧ ∀ r M3, ke r M3 → I (i + 1) (acc ++ [r]) M3 else I (i + 1) acc M2) ∧
    (∀ acc M', I ds.length acc M' → k acc M')
def LcP (X : Cx) (scope : Scope) (elt tg iter : Expr) (ifs : List Expr) (vs : List Nat) (Δ : DS) (M : Store) (k : AK) : Prop := ItD X tg iter Δ M (LcQ X scope elt tg ifs vs Δ k)
/-- .. for any way to walk the items -/
theorem lc_gen {scope : Scope} {elt : Expr} {ifs : List Expr} {vs : List Nat} {wi : TI} {F H : Hp} {σ : L2.St} {Q : VK}
    (hw : ∀ R : It → Hp → Prop, (∀ ds M' F' H' J, LcQ X scope elt tg ifs vs Δ ka ds M' → Stp F M H F' M' H' → Ok X.K F' M' H' → ItRep X.K J ds F' M' H' → R J H') → wi σ H R) (hS : IsS X.K F Δ σ) (ok : Ok X.K F M H) (post : PostL X.K F M H ka Q) :
    tLc wi (tBlkG X scope tg) (tBlkT X scope ifs) (tBlkE X scope elt) vs σ H Q := by
  refine hw _ fun ds M1 F1 H1 J ⟨I, h0, hstep, hend⟩ st ok1 rep => ?_
  intro q hq
  have hq0 : H q = none := by
    cases z : H q with
    | none => rfl
    | some u => exact absurd hq (st.there q (by rw [z]; simp))
  refine ⟨fun i m H' => ∃ M' F' acc us, m = ds.length - i ∧ i ≤ ds.length ∧ Stp F1 M1 H1 F' M' H' ∧ Ok X.K F' M' H' ∧ F' q = none ∧ M' q = none ∧ H' q = some (.lst us) ∧ IsL X.K F' acc us ∧ I i acc M',
    ⟨ds.length, M1, F1, [], [], rfl, Nat.zero_le _, ?_, ?_, (ok1.fresh hq).1, (ok1.fresh hq).2, upd_same, IsL.nil, h0⟩, ?_⟩
  · refine ⟨Same.refl _, fun a u e => .inl e, fun a u e _ => ?_, fun a m _ => m, fun a n => ?_⟩
    · rw [upd_ne (ne_of_none e hq)]; exact e
    · by_cases z : a = q
      · subst z; exact absurd hq n
      · rw [upd_ne z]; exact n
  · refine ⟨fun a u e => ?_, fun a m e => ?_⟩
    · have z : a ≠ q := fun z => by rw [z, (ok1.fresh hq).1] at e; cases e
      rw [upd_ne z]; exact ok1.sub a u e
    · have z : a ≠ q := fun z => by rw [z, (ok1.fresh hq).2] at e; cases e
      obtain ⟨g1, u, g2, g3⟩ := ok1.mem a m e
      exact ⟨g1, u, by rw [upd_ne z]; exact g2, g3⟩
  · rintro i m H' ⟨M', F', acc, us, rfl, hi, st', ok', fF, fM, hL, il, hI⟩
    by_cases hlt : i < ds.length
    · refine .inr ⟨rep.go i F' M' H' st' ok' hlt, fun H2 => ∃ M2 F2 acc us, Stp F1 M1 H1 F2 M2 H2 ∧ Ok X.K F2 M2 H2 ∧ F2 q = none ∧ M2 q = none ∧ H2 q = some (.lst us) ∧ IsL X.K F2 acc us ∧ I (i + 1) acc M2,
        fun H2 ⟨M2, F2, acc, us, a1, a2, a3, a4, a5, a6, a7⟩ => ⟨ds.length - (i + 1), by omega, M2, F2, acc, us, rfl, hlt, a1, a2, a3, a4, a5, a6, a7⟩, fun v H2 y => ?_⟩
      obtain ⟨F2, d, hd, st2, ok2, iv⟩ := rep.yld i F' M' H' v H2 st' ok' hlt y
      obtain ⟨hlen, Δ1, sl, hsl, hg, kb, ht, hb⟩ := hstep i d acc M' hd hI
      have hS2 : IsS X.K F2 (wipeD Δ vs) (wipe σ vs) := (hS.mono ((st.trans st').trans st2).ext).wipe vs
      -- the fresh list stays put along a step
      have stay : ∀ {F3 M3 H3}, Stp F' M' H' F3 M3 H3 → F3 q = none ∧ M3 q = none ∧ H3 q = some (.lst us) := fun {F3 M3 H3} s3 => by
        refine ⟨?_, s3.dom q fM (by rw [hL]; simp), s3.keep q _ hL fM⟩
        cases z : F3 q with
        | none => rfl
        | some u =>
          rcases s3.new q u z with w | w | w
          · rw [fF] at w; cases w
          · rw [hL] at w; cases w
          · exact absurd fM w
      intro s0 H0 C cl fp
      refine hg s0 H0 C cl fp F2 M' H2 _ v _ hS2 ok2 iv fun σ2 hSσ hw => ⟨?_, ?_⟩
      · rw [hw vs hsl]
        have ww : ∀ l : List Nat, (∀ j ∈ l, j ∈ vs) → wipe (wipe σ l) vs = wipe σ vs := fun l => by
          induction l with
          | nil => intro _; rfl
          | cons j l ih =>
            intro hl
            show wipe ((wipe σ l).set j none) vs = _
            rw [wipe_set (hl j (by simp)), ih fun j hj => hl j (List.mem_cons_of_mem _ hj)]
        exact ww vs fun j hj => hj
      · have after : ∀ c M3 F3 H3, kb c M3 → Stp F2 M' H2 F3 M3 H3 → Ok X.K F3 M3 H3 → (if c = true then tBlkE X scope elt σ2 H3 fun y H4 => ∃ acc, H4 q = some (.lst acc) ∧ acc.length < sizeLine ∧ (∃ M2 F2 acc' us, Stp F1 M1 H1 F2 M2 (upd H4 q (.lst (acc ++ [y]))) ∧ Ok X.K F2 M2 (upd H4 q (.lst (acc ++ [y]))) ∧ F2 q = none ∧ M2 q = none ∧ (upd H4 q (.lst (acc ++ [y]))) q = some (.lst us) ∧ IsL X.K F2 acc' us ∧ I (i + 1) acc' M2) else (∃ M2 F2 acc us, Stp F1 M1 H1 F2 M2 H3 ∧ Ok X.K F2 M2 H3 ∧ F2 q = none ∧ M2 q = none ∧ H3 q = some (.lst us) ∧ IsL X.K F2 acc us ∧ I (i + 1) acc M2)) := fun c M3 F3 H3 kc s3 ok3 => by
          have hbc := hb c M3 kc
          have s23 := st2.trans s3
          cases c with
          | true =>
            rw [if_pos rfl] at hbc ⊢
            obtain ⟨ke, hev, hke⟩ := hbc
            intro s1 H9 C9 cl9 fp9
            refine hev s1 H9 C9 cl9 fp9 F3 H3 σ2 _ (hSσ.mono s3.ext) ok3 fun r M4 F4 H4 u kr s4 ok4 ir => ?_
            have s24 := s23.trans s4
            obtain ⟨b1, b2, b3⟩ := stay s24
            have l1 := (il.mono s24.ext)
            refine ⟨us, b3, by rw [← il.length]; exact hlen, M4, F4, acc ++ [r], us ++ [u], ?_, ?_, b1, b2, upd_same, l1.app (IsL.cons ir IsL.nil), hke r M4 kr⟩
            · have s14 := st'.trans s24
              refine ⟨s14.ext, s14.new, fun a w e m => ?_, s14.dom, fun a n => ?_⟩
              · rw [upd_ne (ne_of_none e hq)]; exact s14.keep a w e m
              · by_cases z : a = q
                · subst z; exact absurd hq n
                · rw [upd_ne z]; exact s14.there a n
            · refine ⟨fun a w e => ?_, fun a m e => ?_⟩
              · have z : a ≠ q := fun z => by rw [z, b1] at e; cases e
                rw [upd_ne z]; exact ok4.sub a w e
              · have z : a ≠ q := fun z => by rw [z, b2] at e; cases e
                obtain ⟨g1, w, g2, g3⟩ := ok4.mem a m e
                exact ⟨g1, w, by rw [upd_ne z]; exact g2, g3⟩
          | false =>
            rw [if_neg Bool.false_ne_true] at hbc ⊢
            obtain ⟨b1, b2, b3⟩ := stay s23
            exact ⟨M3, F3, acc, us, st'.trans s23, ok3, b1, b2, b3, il.mono s23.ext, hbc⟩
        match ifs, ht with
        | [], ht => exact after true M' F2 H2 (ht s0 H0 C cl fp) Stp.refl ok2
        | [c], ht =>
          intro s1 H9 C9 cl9 fp9
          exact ht s1 H9 C9 cl9 fp9 F2 H2 σ2 _ hSσ ok2 fun c M3 F3 H3 kc s3 ok3 => after c M3 F3 H3 kc s3 ok3
        | c :: c2 :: r, ht => exact (ht s0 H0 C cl fp).elim
    · have e : i = ds.length := by omega
      subst e
      refine .inl ⟨rep.stop F' M' H' st' ok', ?_⟩
      exact post acc M' F' H' q us (hend acc M' hI) (st.trans st') ok' fF fM hq0 hL il
theorem lc_read {scope : Scope} {elt iter : Expr} {ifs : List Expr} {vs : List Nat} (h : LcP X scope elt tg iter ifs vs Δ M ka) {F H : Hp} {σ : L2.St} {Q : VK} (hS : IsS X.K F Δ σ) (ok : Ok X.K F M H) (post : PostL X.K F M H ka Q) :
    tLc (SemI X tg iter) (tBlkG X scope tg) (tBlkT X scope ifs) (tBlkE X scope elt) vs σ H Q := lc_gen (fun R hR => h F H σ R hS ok hR) hS ok post
theorem el_lc {scope : Scope} {own : List (Str × Nat)} {elt iter : Expr} {ifs : List Expr} (hc : X.calm = true) (hN : X.N.Nodup) (ok : BlkOk X.N X.env.scope scope own) (hl : ifs.length ≤ 1) (h : LcP X scope elt tg iter ifs (own.map (·.2)) Δ M ka)
    (hs : ∀ x, foldedSetIterable iter X.env x = pure x := by intro _; rfl) : EvL X (.ListComp elt [⟨tg, iter, ifs, 0⟩] scope pos) Δ M ka := fun F H σ Q hS okk post =>
  sem_of (pe_lc hc hN pi_sem ok (fun s H C cl fp => pgB s H C cl fp) (fun s H C cl fp => ptsB s H C cl fp hl) (fun s H C cl fp => peB s H C cl fp) hs) (lc_read h hS okk post)
end
end DL
end
section
set_option Elab.async false
set_option linter.all false
set_option maxRecDepth 100000
namespace DL
open PySem L2
section
variable {X : Cx} {a b e e2 o tg tg2 : Expr} {es tgs : List Expr} {Δ Δ1 Δ2 : DS} {M : Store} {k : DK} {kb : BK} {ka : AK} {ks : KS} {p pos apos : Pos} {x : Str} {d d1 d2 : D} {sl sl2 : List Nat} {st : Stmt} {sts body : List Stmt}
/-! ### blocks -/
theorem ss_nil (h : ks.nx Δ M) : SsD X [] Δ M ks := fun F H σ Q hS ok post => semSs_of pss_nil (post.nx Δ M F H σ h Stp.refl ok hS)
theorem ss_cons (h : StD X st Δ M { ks with nx := fun Δ1 M1 => SsD X sts Δ1 M1 ks }) : SsD X (st :: sts) Δ M ks := fun F H σ Q hS ok post =>
  semSs_of (pss_cons ps_sem pss_sem) (h F H σ _ hS ok ⟨fun Δ' M' F' H' σ' q s' ok' hS' => q F' H' σ' Q hS' ok' (post.step s'), post.rt, post.bk, post.ct⟩)
theorem ss_one (h : StD X st Δ M ks) : SsD X [st] Δ M ks := fun F H σ Q hS ok post => semSs_of (pss_one ps_sem) (h F H σ Q hS ok post)
theorem s_ret (h : EvD X e Δ M ks.rt) : StD X (.Return (some e) pos) Δ M ks := fun F H σ Q hS ok post => semS_of (ps_ret pe_sem) (h F H σ _ hS ok post.rt)
theorem s_if {c : Expr} {A B : List Stmt} (h : TeD X c Δ M fun t M1 => if t = true then SsD X A Δ M1 ks else SsD X B Δ M1 ks) : StD X (.If c A B pos) Δ M ks := fun F H σ Q hS ok post =>
  semS_of (ps_if pt_sem pss_sem pss_sem) (h F H σ _ hS ok fun t M1 F1 H1 q s1 ok1 => by
    cases t with
    | true => exact q F1 H1 σ Q (hS.mono s1.ext) ok1 (post.step s1)
    | false => exact q F1 H1 σ Q (hS.mono s1.ext) ok1 (post.step s1))
theorem s_set {i : Nat} {pos' : Pos} (hN : X.N.Nodup) (hi : X.N[i]? = some x) (hx : Loc X.env.scope x) (hf : X.fn x = true ∨ X.env.scope.names.lookup x = some .local) (h : EvD X e Δ M fun d M1 => ks.nx (Δ.set i (some d)) M1)
    (hs : swapsWith e (some (.Name x pos')) pos.line X.env = pure false := by rfl) : StD X (.Assign [.Name x pos'] e pos) Δ M ks := fun F H σ Q hS ok post =>
  semS_of (ps_set hN hi hx pe_sem hs hf) (h F H σ _ hS ok fun d M1 F1 H1 v q s1 ok1 i1 => post.nx _ M1 F1 H1 _ q s1 ok1 ((hS.mono s1.ext).set i i1))
/-- x = [..], the comprehension's own way -/
theorem s_setLc {i : Nat} {y : Str} {py spos : Pos} {scope : Scope} {own : List (Str × Nat)} {elt iter : Expr} {ifs : List Expr} (hc : X.calm = true) (hN : X.N.Nodup) (hy : X.N[i]? = some y) (hyl : X.env.scope.names.lookup y = some .local)
    (hsw : swapsWith (.ListComp elt [⟨tg, iter, ifs, 0⟩] scope pos) (some (.Name y py)) spos.line X.env = pure true) (ok : BlkOk X.N X.env.scope scope own) (hl : ifs.length ≤ 1)
    (h : LcP X scope elt tg iter ifs (own.map (·.2)) Δ M fun ds M1 => ks.nx (Δ.set i (some (.lst ds))) M1)
    (hs : ∀ x, foldedSetIterable iter X.env x = pure x := by intro _; rfl) : StD X (.Assign [.Name y py] (.ListComp elt [⟨tg, iter, ifs, 0⟩] scope pos) spos) Δ M ks := fun F H σ Q hS okk post => by
  refine semS_of (ps_setLc hc hN hy hyl hsw pi_sem ok (fun s H C cl fp => pgB s H C cl fp) (fun s H C cl fp => ptsB s H C cl fp hl) (fun s H C cl fp => peB s H C cl fp) hs) ?_
  refine lc_read h hS okk fun ds M' F' H' q vs hk st ok' f m n hq il => ?_
  refine post.nx _ M' (upd F' q (.lst vs)) H' _ hk ⟨st.ext.trans (same_new f), fun x o e => ?_, st.keep, st.dom, st.there⟩ ⟨fun x o e => ?_, fun x m' e => ?_⟩ ((hS.mono (st.ext.trans (same_new f))).set i (lst_new il f))
  · by_cases z : x = q
    · subst z; exact .inr (.inl n)
    · rw [upd_ne z] at e; exact st.new x o e
  · by_cases z : x = q
    · subst z; rw [upd_same] at e; cases e; exact .inl hq
    · rw [upd_ne z] at e; exact ok'.sub x o e
  · obtain ⟨h1, o, h2, h3⟩ := ok'.mem x m' e
    have z : x ≠ q := fun z => by rw [z, m] at e; cases e
    exact ⟨by rw [upd_ne z]; exact h1, o, h2, h3.mono (same_new f)⟩
/-- a, b = x, y -/
theorem s_par {i j : Nat} {y : Str} {px py pt : Pos} {kt k2 pt2} (hc : X.calm = true) (hN : X.N.Nodup) (hi : X.N[i]? = some x) (hj : X.N[j]? = some y) (hij : i ≠ j) (hx : X.env.scope.names.lookup x = some .local) (hy : X.env.scope.names.lookup y = some .local)
    (hw : swappedStores [.Tuple [.Name x px, .Name y py] kt pt] (.Tuple [a, b] k2 pt2) X.env = pure (some [x, y]))
    (h : EvD X a Δ M fun d1 M1 => EvD X b Δ M1 fun d2 M2 => ks.nx ((Δ.set i (some d1)).set j (some d2)) M2) (hs : swapsWithSole [.Tuple [.Name x px, .Name y py] kt pt] (.Tuple [a, b] k2 pt2) pos.line X.env = pure false := by rfl)
    (h1 : starEach [a, b] X.env = (false, eval a X.env) :: starEach [b] X.env := by rfl) (h2 : starEach [b] X.env = [(false, eval b X.env)] := by rfl) :
    StD X (.Assign [.Tuple [.Name x px, .Name y py] kt pt] (.Tuple [a, b] k2 pt2) pos) Δ M ks := fun F H σ Q hS ok post =>
  semS_of (ps_par hc hN hi hj hij hx hy (pa_cons pe_sem (pa_cons pe_sem pa_nil h2) h1) hw hs) (two h hS ok fun d1 d2 M' F' H' u w q st ok' i1 i2 =>
    ⟨u, w, rfl, post.nx _ M' F' H' _ q st ok' (((hS.mono st.ext).set i i1).set j i2)⟩)
/-- target = value, any target of names -/
theorem s_asg (h : EvD X e Δ M fun d M1 => ∃ Δ1 sl, GdD X tg d Δ Δ1 sl ∧ ks.nx Δ1 M1) (hs : swapsWithSole [tg] e pos.line X.env = pure false := by rfl) (hw : swappedStores [tg] e X.env = pure none := by rfl)
    (h1 : (assignEach [tg] X.env).map (·.2) = [assign tg X.env] := by rfl) : StD X (.Assign [tg] e pos) Δ M ks := fun F H σ Q hS ok post =>
  semS_of (ps_asg pe_sem pg_sem hs hw h1) (h F H σ _ hS ok fun d M1 F1 H1 v ⟨Δ1, sl, g, q⟩ st ok1 i => g F1 M1 H1 σ v _ (hS.mono st.ext) ok1 i fun σ' hS' _ => post.nx _ M1 F1 H1 _ q st ok1 hS')
/-- x[i] = e of a cell -/
theorem s_put {spos : Pos} (h : EvD X e Δ M fun y M1 => EvD X a Δ M1 fun d M2 => EvD X b Δ M2 fun j M3 => ∃ q ds n jj, d = .cell q ∧ j = .int n ∧ M3 q = some (.lst ds) ∧ ixN ds.length n = some jj ∧ ks.nx Δ (mup M3 q (.lst (ds.set jj y))))
    (hs : swapsWithSole [.Subscript a b spos] e pos.line X.env = pure false := by rfl) (hw : swappedStores [.Subscript a b spos] e X.env = pure none := by rfl) (h1 : (assignEach [.Subscript a b spos] X.env).map (·.2) = [assign (.Subscript a b spos) X.env] := by rfl)
    (ha : ∀ v, assign (.Subscript a b spos) X.env v = (do
      let ov ← holding [v] (eval a X.env)
      let iv ← holding [v, ov] (eval b X.env)
      standAt spos
      holding [v, ov, iv] (setItem ov iv v)
      release [v, ov, iv] []) := by intro _; rfl) : StD X (.Assign [.Subscript a b spos] e pos) Δ M ks := fun F H σ Q hS ok post =>
  semS_of (ps_asg pe_sem (pg_sub pe_sem pe_sem set_list ha) hs hw h1) (h F H σ _ hS ok fun y M1 F1 H1 v hq st ok1 iy => two hq (hS.mono st.ext) ok1 fun d j M3 F3 H3 u w ⟨q, ds, n, jj, e1, e2, hm, hj, hk⟩ st3 ok3 i1 i2 => by
    subst e1 e2
    obtain ⟨vs, hH, il⟩ := cell_of ok3 hm
    refine ⟨q, vs, n, jj, is_cell.1 i1, is_int.1 i2, hH, by rw [← il.length]; exact hj, ?_⟩
    have wr := ok3.write (m := .lst (ds.set jj y)) (o := .lst (vs.set jj v)) hm ⟨_, rfl, il.set jj (iy.mono st3.ext)⟩
    exact post.nx _ _ F3 _ σ hk ((st.trans st3).trans wr.2) wr.1 (hS.mono (st.trans st3).ext))
/-! ### for -/
theorem s_for {iter : Expr} (hp : PassesOwn (model X.prog X.w) X.A X.env X.xe) (hc : X.calm = true)
    (h : ItD X tg iter Δ M fun ds M1 => ∃ I : Nat → DS → Store → Prop, I 0 Δ M1 ∧ (∀ i d Δ' M', ds[i]? = some d → I i Δ' M' → ∃ Δ1 sl, GdD X tg d Δ' Δ1 sl ∧ SsD X body Δ1 M' { nx := I (i + 1), ct := I (i + 1), bk := ks.nx, rt := ks.rt }) ∧ (∀ Δ' M', I ds.length Δ' M' → ks.nx Δ' M'))
    (hs : ∀ x, foldedSetIterable iter X.env x = pure x := by intro _; rfl) : StD X (.For tg iter body [] pos) Δ M ks := fun F H σ Q hS ok post => by
  refine semS_of (ps_for hp hc pi_sem pg_sem pss_sem hs) ?_
  refine h F H σ _ hS ok fun ds M1 F1 H1 J ⟨I, h0, hstep, hend⟩ st ok1 rep => ?_
  refine ⟨fun i m σ' H' => ∃ Δ' M' F', m = ds.length - i ∧ i ≤ ds.length ∧ Stp F1 M1 H1 F' M' H' ∧ Ok X.K F' M' H' ∧ IsS X.K F' Δ' σ' ∧ I i Δ' M', ⟨ds.length, Δ, M1, F1, rfl, Nat.zero_le _, Stp.refl, ok1, hS.mono st.ext, h0⟩, ?_⟩
  rintro i m σ' H' ⟨Δ', M', F', rfl, hi, st', ok', hS', hI⟩
  by_cases hlt : i < ds.length
  · refine .inr ⟨rep.go i F' M' H' st' ok' hlt, fun σ2 H2 => ∃ Δ2 M2 F2, Stp F1 M1 H1 F2 M2 H2 ∧ Ok X.K F2 M2 H2 ∧ IsS X.K F2 Δ2 σ2 ∧ I (i + 1) Δ2 M2,
      fun σ2 H2 ⟨Δ2, M2, F2, a1, a2, a3, a4⟩ => ⟨ds.length - (i + 1), by omega, Δ2, M2, F2, rfl, hlt, a1, a2, a3, a4⟩, fun v H2 y => ?_⟩
    obtain ⟨F2, d, hd, st2, ok2, iv⟩ := rep.yld i F' M' H' v H2 st' ok' hlt y
    obtain ⟨Δ1, sl, g, hb⟩ := hstep i d Δ' M' hd hI
    have s12 := st'.trans st2
    refine g F2 M' H2 σ' v _ (hS'.mono st2.ext) ok2 iv fun σ3 hS3 _ => hb F2 H2 σ3 _ hS3 ok2 ⟨fun Δ4 M4 F4 H4 σ4 q s4 ok4 hS4 => ⟨Δ4, M4, F4, s12.trans s4, ok4, hS4, q⟩, ?_, ?_, fun Δ4 M4 F4 H4 σ4 q s4 ok4 hS4 => ⟨Δ4, M4, F4, s12.trans s4, ok4, hS4, q⟩⟩
    · exact post.rt.step (st.trans s12)
    · exact fun Δ4 M4 F4 H4 σ4 q s4 ok4 hS4 => post.nx Δ4 M4 F4 H4 σ4 q ((st.trans s12).trans s4) ok4 hS4
  · have e : i = ds.length := by omega
    subst e
    exact .inl ⟨rep.stop F' M' H' st' ok', post.nx Δ' M' F' H' σ' (hend Δ' M' hI) (st.trans st') ok' hS'⟩
/-! ### cells frozen, dropped -/
/-! ### a def's contract -/
abbrev SpD := List D → Store → DK → Prop
def spOf (K : PySem.W.Frag) (sp : SpD) : Sp := fun vs H Q _ => ∃ ds F M k, IsL K F ds vs ∧ Ok K F M H ∧ sp ds M k ∧ Post K F M H k Q
def startD (N : List Str) (ds : List D) : DS := ds.map some ++ List.replicate (N.length - ds.length) none
theorem start_is {K : PySem.W.Frag} {F : Hp} {N : List Str} {ds : List D} {vs : List V} (h : IsL K F ds vs) : IsS K F (startD N ds) (L2.start N vs) := by
  unfold startD L2.start
  refine ⟨by rw [List.length_append, List.length_append, List.length_map, List.length_map, List.length_replicate, List.length_replicate, h.length], fun i d e => ?_⟩
  by_cases hi : i < ds.length
  · rw [List.getElem?_append_left (by rw [List.length_map]; exact hi), List.getElem?_map] at e
    have hi2 : i < vs.length := by rw [← h.length]; exact hi
    rw [List.getElem?_append_left (by rw [List.length_map]; exact hi2), List.getElem?_map]
    cases hd : ds[i]? with
    | none => rw [hd] at e; cases e
    | some d0 =>
      rw [hd] at e
      cases e
      obtain ⟨v, h1, h2⟩ := h.get hd
      exact ⟨v, by rw [h1]; rfl, h2⟩
  · rw [List.getElem?_append_right (by rw [List.length_map]; omega), List.getElem?_replicate] at e
    split at e <;> cases e
end
section
variable {P : Program} {w : World} {K : PySem.W.Frag} {mg : Str → Option Value} {base : Heap}
/-- the context of a def's body -/
abbrev XOf (P : Program) (w : World) (K : PySem.W.Frag) (mg : Str → Option Value) (base : Heap) (N : List Str) (qual : Str) (st : Stmt) (f : Addr) (cdv : Value) (A : Around) (outer : List Env) (s : Shared) (H : Hp) (E : XK) : Cx := (cxOf CX0 P w K mg base N qual (defScope st) f cdv A outer s H E).nox
/-- a def that can be called -/
structure Cal (P : Program) (w : World) (K : PySem.W.Frag) (mg : Str → Option Value) (base : Heap) (x : Str) (n : Nat) (sp : SpD) : Prop where
  ex : ∃ f fd ps, FnOk P w K mg base CX0 n f fd ps (spOf K sp) ∧ mg x = some (.ref f) ∧ PySem.W.keepIn K (.ref f) = true ∧ Binds K fd ps []
theorem Cal.mono {x : Str} {m n : Nat} {sp : SpD} (c : Cal P w K mg base x m sp) (h : m ≤ n) : Cal P w K mg base x n sp := by
  obtain ⟨f, fd, ps, h1, h2⟩ := c.ex
  exact ⟨f, fd, ps, h1.mono h, h2⟩
end
section
variable {X : Cx} {e : Expr} {es : List Expr} {Δ : DS} {M : Store} {k : DK} {p pos : Pos} {x : Str}
theorem ev_call {n : Nat} {sp : SpD} (C : Cal X.prog X.w X.K X.mg X.base x n sp) (hr : Room n X.A) (hg : Gl X x) (h : EvA X (e :: es) Δ M fun ds M1 => sp ds M1 k) (hdb : (x == ("__debug__" : Str)) = false := by decide)
    (he : starEach (e :: es) X.env = (false, eval e X.env) :: starEach es X.env := by rfl) (hpl : (backTo pos (starEach es X.env)).any (·.1) = false := by rfl) : EvD X (.Call (.Name x p) (e :: es) [] pos) Δ M k := fun F H σ Q hS ok post => by
  obtain ⟨f, fd, ps, hF, hm, hk, hb⟩ := C.ex
  refine sem_of (pe_call (E := E0) hF hr hg hm hk hb .nil pass0 pa_sem hdb he hpl) (h F H σ _ hS ok fun ds M1 F1 H1 vs q st ok1 il => ?_)
  rw [List.append_nil]
  exact ⟨ds, F1, M1, k, il, ok1, q, post.step st⟩
end
end DL
end
section
set_option Elab.async false
set_option linter.all false
set_option maxRecDepth 100000
namespace DL
open PySem L2
section
variable {X : Cx} {a b e e2 o : Expr} {es rest : List Expr} {Δ : DS} {M : Store} {k : DK} {kb : BK} {ka : AK} {p pos apos : Pos} {x : Str} {op : CmpOp}
/-! ### a comparison as a value and as a test -/
def SemC (X : Cx) (op : CmpOp) (a b : Expr) : TE := fun σ H Q => ∀ pins s, Inv X pins σ H s → wpAny (model X.prog X.w) X.A (eval a X.env) (fun v s₁ => wpAny (model X.prog X.w) X.A (eval b X.env) (fun u s₂ => wpAny (model X.prog X.w) X.A (compareOp op v u) (EP X pins σ Q) X.xe s₂) X.xe s₁) X.xe s
theorem pc_sem : PC X op a b (SemC X op a b) := ⟨fun pins s _ _ _ I h => h pins s I⟩
theorem semC_of {t : TE} {σ : L2.St} {H : Hp} {Q : VK} (h : PC X op a b t) (q : t σ H Q) : SemC X op a b σ H Q := fun pins s I => h.run pins s σ H Q I q
theorem pc_op {r : R2} {ta tb : TE} (ho : OpR X (compareOp op) r) (ha : PE X a ta) (hb : PE X b tb) : PC X op a b (tOp r ta tb) := by
  refine ⟨fun pins s σ H Q I h => ?_⟩
  exact bin ha hb I h fun v u s2 x y H2 I2 rx ry q => ho pins s2 σ H2 x y v u Q I2 rx ry q
def EvC (X : Cx) (op : CmpOp) (a b : Expr) (Δ : DS) (M : Store) (k : DK) : Prop := ∀ F H σ (Q : VK), IsS X.K F Δ σ → Ok X.K F M H → Post X.K F M H k Q → SemC X op a b σ H Q
theorem ev_c1 (hm : behindInMarks op b = false) (h : EvC X op a b Δ M k) : EvD X (.Compare a [op] [b] pos) Δ M k := fun F H σ Q hS ok post => sem_of (pe_cmp pc_sem hm) (h F H σ Q hS ok post)
theorem te_c1 (hm : behindInMarks op b = false) (h : EvC X op a b Δ M fun d M' => ∃ c, d = .bl c ∧ kb c M') : TeD X (.Compare a [op] [b] pos) Δ M kb := fun F H σ Q hS ok post =>
  semT_of (pt_cmp pc_sem hm) (h F H σ _ hS ok fun d M' F' H' v ⟨c, ed, q⟩ st ok' i => by
    subst ed
    exact ⟨c, is_bl.1 i, post c M' F' H' q st ok'⟩)
theorem c_op2 {r : R2} (ho : OpR X (compareOp op) r) (h : EvD X a Δ M fun d1 M1 => EvD X b Δ M1 fun d2 M2 => P2 X r d1 d2 M2 k) : EvC X op a b Δ M k := fun F H σ Q hs ok post =>
  semC_of (pc_op ho pe_sem pe_sem) (two h hs ok fun d1 d2 M' F' H' x y p st ok' i1 i2 => p F' H' x y Q ok' i1 i2 (post.step st))
theorem c_co (h : EvD X a Δ M fun d1 M1 => EvD X b Δ M1 fun d2 M2 => CoP op d1 d2 M2 k) : EvC X op a b Δ M k := c_op2 op_co (h.mono fun _ _ q => q.mono fun _ _ p => p2_co p)
def EqA (neg : Bool) (d1 d2 : D) (M : Store) (k : DK) : Prop := EqS neg d1 d2 M k ∨ EqP neg d1 d2 M k
theorem c_eq (hu : X.A.units + 64 < cLine) (h : EvD X a Δ M fun d1 M1 => EvD X b Δ M1 fun d2 M2 => EqA false d1 d2 M2 k) : EvC X .Eq a b Δ M k :=
  c_op2 (op_eq.or (op_eqD hu)) (h.mono fun _ _ q => q.mono fun _ _ z F H u w Q ok i1 i2 post => by
    rcases z with ⟨x, y, h1, h2, s1, hk⟩ | ⟨p, q, h1, h2, s1, s2, hk⟩
    · rw [sc_is h1 i1, sc_is h2 i2]
      exact .inl ⟨s1, post.here ok hk (is_bl.2 rfl)⟩
    · exact .inr ⟨p, q, dp_of ok _ _ _ h1 i1, dp_of ok _ _ _ h2 i2, s1, s2, post.here ok hk (is_bl.2 rfl)⟩)
theorem c_ne (hu : X.A.units + 64 < cLine) (h : EvD X a Δ M fun d1 M1 => EvD X b Δ M1 fun d2 M2 => EqA true d1 d2 M2 k) : EvC X .NotEq a b Δ M k :=
  c_op2 (op_ne.or (op_neD hu)) (h.mono fun _ _ q => q.mono fun _ _ z F H u w Q ok i1 i2 post => by
    rcases z with ⟨x, y, h1, h2, s1, hk⟩ | ⟨p, q, h1, h2, s1, s2, hk⟩
    · rw [sc_is h1 i1, sc_is h2 i2]
      exact .inl ⟨s1, post.here ok hk (is_bl.2 rfl)⟩
    · exact .inr ⟨p, q, dp_of ok _ _ _ h1 i1, dp_of ok _ _ _ h2 i2, s1, s2, post.here ok hk (is_bl.2 rfl)⟩)
theorem c_isN {j : Nat} {p : Pos} (h : EvD X a Δ M fun d1 M1 => k (.bl (isNon d1)) M1) : EvC X .Is a (.Constant .none j p) Δ M k := fun F H σ Q hs ok post =>
  semC_of (pc_isN pe_sem) (h F H σ _ hs ok fun d M' F' H' v hk st ok' i => by
    rw [isNon_of i]
    exact (post.step st).here ok' hk (is_bl.2 rfl))
theorem c_notN {j : Nat} {p : Pos} (h : EvD X a Δ M fun d1 M1 => k (.bl (!isNon d1)) M1) : EvC X .IsNot a (.Constant .none j p) Δ M k := fun F H σ Q hs ok post =>
  semC_of (pc_notN pe_sem) (h F H σ _ hs ok fun d M' F' H' v hk st ok' i => by
    rw [isNon_of i]
    exact (post.step st).here ok' hk (is_bl.2 rfl))
/-- in: a flat thing in a sequence, a sign in a text -/
def InA (neg : Bool) (d1 d2 : D) (M : Store) (k : DK) : Prop := InP neg d1 d2 M k ∨ ∃ c z, d1 = .str ⟨#[c]⟩ ∧ d2 = .str z ∧ k (.bl (if neg then !decide (c ∈ z.cps.toList) else decide (c ∈ z.cps.toList))) M
theorem c_in (h : EvD X a Δ M fun d1 M1 => EvD X b Δ M1 fun d2 M2 => InA false d1 d2 M2 k) : EvC X .In a b Δ M k :=
  c_op2 (op_in_seq.or op_in_sign) (h.mono fun _ _ q => q.mono fun d2 M2 z F H u w Q ok i1 i2 post => by
    rcases z with ⟨x, ds, vs, h1, h2, h3, hk⟩ | ⟨c, z, e1, e2, hk⟩
    · obtain ⟨p, ws, e, hq, hl⟩ := seq_of ok h2 i2
      have ew := flatL_of h3 hl
      subst ew
      rw [sc_is h1 i1]
      exact .inl ⟨p, ws, e, hq, flatV_sc h1, flatL_all h3, post.here ok hk (is_bl.2 rfl)⟩
    · subst e1 e2
      exact .inr ⟨c, z, is_str.1 i1, is_str.1 i2, post.here ok hk (is_bl.2 rfl)⟩)
theorem c_notin (h : EvD X a Δ M fun d1 M1 => EvD X b Δ M1 fun d2 M2 => InA true d1 d2 M2 k) : EvC X .NotIn a b Δ M k :=
  c_op2 (op_notIn_seq.or op_notIn_sign) (h.mono fun _ _ q => q.mono fun d2 M2 z F H u w Q ok i1 i2 post => by
    rcases z with ⟨x, ds, vs, h1, h2, h3, hk⟩ | ⟨c, z, e1, e2, hk⟩
    · obtain ⟨p, ws, e, hq, hl⟩ := seq_of ok h2 i2
      have ew := flatL_of h3 hl
      subst ew
      rw [sc_is h1 i1]
      exact .inl ⟨p, ws, e, hq, flatV_sc h1, flatL_all h3, post.here ok hk (is_bl.2 rfl)⟩
    · subst e1 e2
      exact .inr ⟨c, z, is_str.1 i1, is_str.1 i2, post.here ok hk (is_bl.2 rfl)⟩)
theorem c_dnotin (hu : X.A.units + 1 < cLine) (h : EvD X a Δ M fun d1 M1 => EvD X b Δ M1 fun d2 M2 => DInP true d1 d2 M2 k) : EvC X .NotIn a b Δ M k := fun F H σ Q hS ok post =>
  semC_of (pc_dnotin hu pe_sem pe_sem) (two h hS ok fun d1 d2 M' F' H' u y ⟨ks, ds, c, e1, e2, hk⟩ st ok' i1 i2 => by
    subst e1
    obtain ⟨q, vs, e, hq, hl, il⟩ := dct_rd ok' i2
    refine ⟨q, _, e, .inl ⟨_, c, hq, key_is e2 i1, rfl⟩, ?_⟩
    rw [some_is hl il]
    exact (post.step st).here ok' hk (is_bl.2 rfl))
/-! ### pure chains: one answer -/
end
/-! ### finishers -/
section
variable {M : Store} {k : DK} {i j : Int} {x y : Str} {xs ys : List D} {c1 c2 : Bool}
theorem add_int (h : k (.int (i + j)) M) : AddP (.int i) (.int j) M k := h
theorem add_str (l : x.length + y.length ≤ sizeLine) (h : k (.str (x ++ y)) M) : AddP (.str x) (.str y) M k := ⟨l, h⟩
theorem add_lst (l : xs.length + ys.length ≤ sizeLine) (h : k (.lst (xs ++ ys)) M) : AddP (.lst xs) (.lst ys) M k := ⟨l, h⟩
theorem add_tup (l : xs.length + ys.length ≤ sizeLine) (h : k (.tup (xs ++ ys)) M) : AddP (.tup xs) (.tup ys) M k := ⟨l, h⟩
theorem num_int {g : Int → Int → D} (h : k (g i j) M) : NumP g (.int i) (.int j) M k := h
theorem num1_int {g : Int → D} (h : k (g i) M) : NumP1 g (.int i) M k := h
theorem intp_int {C : Int → Int → Prop} {g : Int → Int → D} (c : C i j) (h : k (g i j) M) : IntP C g (.int i) (.int j) M k := ⟨c, h⟩
theorem mul_int (c : IntMulOk i j) (h : k (.int (i * j)) M) : MulP (.int i) (.int j) M k := ⟨c, h⟩
theorem mul_lst (c : -(2 ^ 63) ≤ j ∧ j < 2 ^ 63 ∧ xs.length * j.toNat ≤ sizeLine) (h : k (.lst (List.replicate j.toNat xs).flatten) M) : MulP (.lst xs) (.int j) M k := ⟨c, h⟩
theorem intc_int (h : k (.int i) M) : IntC (.int i) M k := h
theorem intc_bl (h : k (.int (if c1 then 1 else 0)) M) : IntC (.bl c1) M k := h
theorem lt_int (h : k (.bl (decide (i < j))) M) : CoP .Lt (.int i) (.int j) M k := h
theorem le_int (h : k (.bl (decide (i ≤ j))) M) : CoP .LtE (.int i) (.int j) M k := h
theorem gt_int (h : k (.bl (decide (j < i))) M) : CoP .Gt (.int i) (.int j) M k := h
theorem ge_int (h : k (.bl (decide (j ≤ i))) M) : CoP .GtE (.int i) (.int j) M k := h
theorem eq_int (h : k (.bl (decide (i = j))) M) : EqA false (.int i) (.int j) M k := .inl ⟨.int i, .int j, rfl, rfl, rfl, by
  have e : decide (V.int i = V.int j) = decide (i = j) := decide_eq_decide.mpr ⟨fun z => by cases z; rfl, fun z => by rw [z]⟩
  rw [e]; exact h⟩
theorem ne_int (h : k (.bl (!decide (i = j))) M) : EqA true (.int i) (.int j) M k := .inl ⟨.int i, .int j, rfl, rfl, rfl, by
  have e : decide (V.int i = V.int j) = decide (i = j) := decide_eq_decide.mpr ⟨fun z => by cases z; rfl, fun z => by rw [z]⟩
  rw [e]; exact h⟩
theorem eq_str (h : k (.bl (decide (x = y))) M) : EqA false (.str x) (.str y) M k := .inl ⟨.str x, .str y, rfl, rfl, rfl, by
  have e : decide (V.str x = V.str y) = decide (x = y) := decide_eq_decide.mpr ⟨fun z => by cases z; rfl, fun z => by rw [z]⟩
  rw [e]; exact h⟩
theorem ne_str (h : k (.bl (!decide (x = y))) M) : EqA true (.str x) (.str y) M k := .inl ⟨.str x, .str y, rfl, rfl, rfl, by
  have e : decide (V.str x = V.str y) = decide (x = y) := decide_eq_decide.mpr ⟨fun z => by cases z; rfl, fun z => by rw [z]⟩
  rw [e]; exact h⟩
theorem eq_bl (h : k (.bl (decide (c1 = c2))) M) : EqA false (.bl c1) (.bl c2) M k := .inl ⟨.bl c1, .bl c2, rfl, rfl, rfl, by
  have e : decide (V.bl c1 = V.bl c2) = decide (c1 = c2) := decide_eq_decide.mpr ⟨fun z => by cases z; rfl, fun z => by rw [z]⟩
  rw [e]; exact h⟩
theorem ne_bl (h : k (.bl (!decide (c1 = c2))) M) : EqA true (.bl c1) (.bl c2) M k := .inl ⟨.bl c1, .bl c2, rfl, rfl, rfl, by
  have e : decide (V.bl c1 = V.bl c2) = decide (c1 = c2) := decide_eq_decide.mpr ⟨fun z => by cases z; rfl, fun z => by rw [z]⟩
  rw [e]; exact h⟩
theorem eq_non (h : k (.bl true) M) : EqA false .non .non M k := .inl ⟨.non, .non, rfl, rfl, rfl, h⟩
theorem eq_nonI (h : k (.bl false) M) : EqA false .non (.int i) M k := .inl ⟨.non, .int i, rfl, rfl, rfl, h⟩
theorem sl_str {lo hi : Option Int} (l : x.length ≤ sizeLine) (h : k (.str (cutS x lo hi)) M) : SlP (.str x) lo hi M k := ⟨l, h⟩
theorem sl_tup {lo hi : Option Int} (h : k (.tup (cutD xs lo hi)) M) : SlP (.tup xs) lo hi M k := h
theorem sl_lst {lo hi : Option Int} (h : k (.lst (cutD xs lo hi)) M) : SlP (.lst xs) lo hi M k := ⟨xs, rfl, h⟩
theorem sl_frl {lo hi : Option Int} (h : k (.lst (cutD xs lo hi)) M) : SlP (.frl xs) lo hi M k := ⟨xs, rfl, h⟩
theorem iteB {A B : Prop} {c : Bool} (h1 : c = true → A) (h2 : c = false → B) : if c = true then A else B := by
  cases c with
  | true => exact h1 rfl
  | false => exact h2 rfl
end
end DL
end
section
set_option Elab.async false
set_option linter.all false
set_option maxRecDepth 100000
namespace DL
open PySem L2
section
variable {X : Cx} {a b e e2 o : Expr} {es rest : List Expr} {Δ : DS} {M : Store} {k : DK} {kb : BK} {ka : AK} {p pos apos : Pos} {x : Str} {op : CmpOp}
theorem at_cell {q : Addr} {ds : List D} {i : Int} {r : D} (h : M q = some (.lst ds)) (e : atI ds i = some r) : atD M (.cell q) i = some r := by
  have h1 : seqD M (.cell q) = some ds := by
    simp only [seqD, h]
  show (seqD M (.cell q)).bind (fun ds => atI ds i) = some r
  rw [h1]
  exact e
theorem seq_cell {q : Addr} {ds : List D} (h : M q = some (.lst ds)) : seqD M (.cell q) = some ds := by
  simp only [seqD, h]
theorem ls_cell {q : Addr} {ds : List D} (h : M q = some (.lst ds)) : lsD M (.cell q) = some ds := by
  simp only [lsD, h]
theorem tru_cell {q : Addr} {ds : List D} (h : M q = some (.lst ds)) : truD M (.cell q) = some (!ds.isEmpty) := by
  simp only [truD, h]
end
/-! ### the urn of a law -/
def Urn (M : Store) (u : Addr) (n : Nat) : Prop := ∃ a b c : Int, M u = some (.lst [.int a, .int b, .int c]) ∧ 0 ≤ a ∧ 0 ≤ b ∧ b < 2 ^ 62 ∧ 0 ≤ c ∧ c + (n : Int) ≤ 2 ^ 60
theorem Urn.le {M : Store} {u : Addr} {m n : Nat} (h : Urn M u n) (l : m ≤ n) : Urn M u m := by
  obtain ⟨a, b, c, h1, h2, h3, h4, h5, h6⟩ := h
  exact ⟨a, b, c, h1, h2, h3, h4, h5, by omega⟩
theorem Urn.mup {M : Store} {u q : Addr} {n : Nat} {m : MO} (h : Urn M u n) (l : q ≠ u) : Urn (mup M q m) u n := by
  obtain ⟨a, b, c, h1, h2⟩ := h
  exact ⟨a, b, c, by rw [mup_ne l.symm]; exact h1, h2⟩
theorem Urn.mdel {M : Store} {u q : Addr} {n : Nat} (h : Urn M u n) (l : q ≠ u) : Urn (mdel M q) u n := by
  obtain ⟨a, b, c, h1, h2⟩ := h
  exact ⟨a, b, c, by rw [mdel_ne l.symm]; exact h1, h2⟩
theorem Urn.ne {M : Store} {u q : Addr} {n : Nat} (h : Urn M u n) (l : M q = none) : q ≠ u := fun e => by
  obtain ⟨a, b, c, h1, h2⟩ := h
  rw [e, h1] at l
  cases l
end DL
end
section
set_option Elab.async false
set_option linter.all false
set_option maxRecDepth 100000
namespace DL
open PySem L2
/-! ### instances -/
section
variable {P : Program} {w : World} {K : PySem.W.Frag} {mg : Str → Option Value} {base : Heap}
/-- a method, a property's getter with its promise -/
structure MethD (P : Program) (w : World) (K : PySem.W.Frag) (mg : Str → Option Value) (base : Heap) (C : Addr) (m : Str) (n : Nat) (sp : SpD) : Prop where
  ex : ∃ f fd ps, FnOk P w K mg base CX0 n f fd ps (spOf K sp) ∧ Meth K C m f ∧ Binds K fd ps []
structure PropD (P : Program) (w : World) (K : PySem.W.Frag) (mg : Str → Option Value) (base : Heap) (C : Addr) (m : Str) (n : Nat) (sp : SpD) : Prop where
  ex : ∃ p g fd ps, FnOk P w K mg base CX0 n g fd ps (spOf K sp) ∧ PropOf K C m p g ∧ Binds K fd ps []
end
section
variable {X : Cx} {a b e e2 o : Expr} {es : List Expr} {Δ : DS} {M : Store} {k : DK} {kb : BK} {ka : AK} {ks : KS} {p pos apos : Pos} {x f m : Str} {C : Addr} {n : Nat} {sp : SpD}
/-! ### own operators -/
end
end DL
end
section
set_option Elab.async false
set_option linter.all false
set_option maxRecDepth 100000
namespace DL
open PySem L2
section
variable {K : PySem.W.Frag} {F H : Hp} {M : Store}
end
section
variable {X : Cx} {a b e e2 o tg : Expr} {es tgs : List Expr} {Δ : DS} {M : Store} {k : DK} {kb : BK} {ka : AK} {ks : KS} {p pos apos : Pos} {x f m : Str} {C : Addr} {n : Nat} {sp : SpD}
/-! ### attribute targets -/
/-- targets that write -/
def GwD (X : Cx) (tg : Expr) (d : D) (Δ : DS) (M : Store) (k : DS → Store → Prop) : Prop := ∀ F H σ v (Q : L2.St → Hp → Prop), IsS X.K F Δ σ → Ok X.K F M H → Is X.K F d v →
  (∀ Δ' M' F' H' σ', k Δ' M' → Stp F M H F' M' H' → Ok X.K F' M' H' → IsS X.K F' Δ' σ' → Q σ' H') → SemG X tg v σ H Q
def SemGs (X : Cx) (tgs : List Expr) : TGs := fun vs σ H Q => ∀ pins s us, Inv X pins σ H s → Vals vs us → wpAny (model X.prog X.w) X.A (assignInOrder ((assignEach tgs X.env).map (·.2)) us) (fun _ s' => ∃ σ' H', Inv X pins σ' H' s' ∧ Q σ' H') X.xe s
def GwsD (X : Cx) (tgs : List Expr) (ds : List D) (Δ : DS) (M : Store) (k : DS → Store → Prop) : Prop := ∀ F H σ vs (Q : L2.St → Hp → Prop), IsS X.K F Δ σ → Ok X.K F M H → IsL X.K F ds vs →
  (∀ Δ' M' F' H' σ', k Δ' M' → Stp F M H F' M' H' → Ok X.K F' M' H' → IsS X.K F' Δ' σ' → Q σ' H') → SemGs X tgs vs σ H Q
/-! ### keywords -/
def SemK (X : Cx) (kws : List Keyword) : TA := fun σ H Q => ∀ pos pins s, Inv X pins σ H s → wpAny (model X.prog X.w) X.A (evalAll ((backToKw pos (keywordEach kws X.env)).map (·.2))) (AP X pins σ Q) X.xe s
def EvK (X : Cx) (kws : List Keyword) (Δ : DS) (M : Store) (k : AK) : Prop := ∀ F H σ (Q : List V → Hp → Prop), IsS X.K F Δ σ → Ok X.K F M H → PostA X.K F M H k Q → SemK X kws σ H Q
end
section
variable {P : Program} {w : World} {K : PySem.W.Frag} {mg : Str → Option Value} {base : Heap}
/-- a class that can be made: dv the defaults that fill up -/
structure MakD (P : Program) (w : World) (K : PySem.W.Frag) (mg : Str → Option Value) (base : Heap) (x : Str) (C : Addr) (n : Nat) (dv : List D) (sp : SpD) : Prop where
  ex : ∃ f fd ps ds dvs, Mk K C f ∧ FnOk P w K mg base CX0 n f fd ps (spOf K sp) ∧ mg x = some (.ref C) ∧ Binds K fd ps ds ∧ Vals dvs ds ∧ ∀ F, IsL K F dv dvs
/-- .. by keywords: na values, then those named ks -/
structure MakK (P : Program) (w : World) (K : PySem.W.Frag) (mg : Str → Option Value) (base : Heap) (x : Str) (C : Addr) (n na : Nat) (ks : List Str) (gD : List D → List D → List D) (sp : SpD) : Prop where
  ex : ∃ f fd ps g gV, Mk K C f ∧ FnOk P w K mg base CX0 n f fd ps (spOf K sp) ∧ mg x = some (.ref C) ∧ KBn K fd ps (na + 1) ks g gV ∧ ∀ F ds vs es ws, IsL K F ds vs → IsL K F es ws → IsL K F (gD ds es) (gV vs ws)
/-- a def called by keywords -/
structure CalK (P : Program) (w : World) (K : PySem.W.Frag) (mg : Str → Option Value) (base : Heap) (x : Str) (n na : Nat) (ks : List Str) (gD : List D → List D → List D) (sp : SpD) : Prop where
  ex : ∃ f fd ps g gV, FnOk P w K mg base CX0 n f fd ps (spOf K sp) ∧ mg x = some (.ref f) ∧ PySem.W.keepIn K (.ref f) = true ∧ KBn K fd ps na ks g gV ∧ ∀ F ds vs es ws, IsL K F ds vs → IsL K F es ws → IsL K F (gD ds es) (gV vs ws)
structure MethK (P : Program) (w : World) (K : PySem.W.Frag) (mg : Str → Option Value) (base : Heap) (C : Addr) (m : Str) (n na : Nat) (ks : List Str) (gD : List D → List D → List D) (sp : SpD) : Prop where
  ex : ∃ f fd ps g gV, FnOk P w K mg base CX0 n f fd ps (spOf K sp) ∧ Meth K C m f ∧ KBn K fd ps (na + 1) ks g gV ∧ ∀ F ds vs es ws, IsL K F ds vs → IsL K F es ws → IsL K F (gD ds es) (gV vs ws)
end
section
variable {X : Cx} {a b e e2 o tg : Expr} {es tgs : List Expr} {Δ : DS} {M : Store} {k : DK} {kb : BK} {ka : AK} {ks : KS} {p pos apos : Pos} {x f m : Str} {C : Addr} {n : Nat} {sp : SpD} {dv : List D} {kws : List Keyword} {kn : List Str} {gD : List D → List D → List D}
/-! ### calls by keywords -/
end
end DL
end
section
set_option Elab.async false
set_option linter.all false
set_option maxRecDepth 100000
namespace DL
open PySem L2
/-- an own class, as isinstance wants it -/
structure TyC (K : PySem.W.Frag) (C : Addr) : Prop where
  cl : Cls K C
  ha : PySem.W.findIn K (.ref C) "__class__" = some (some (.builtin "object.__class__"))
  hn : PySem.W.specialIn K (.builtin "object.__class__") "__get__" = some (some (.builtin "getset_descriptor.__get__"))
  htk : PySem.W.takesIn K (.builtin "object.__class__") = some true
  hm : PySem.W.mroIn K C (.type "object") = some true
section
variable {X : Cx} {a b e e2 o : Expr} {es : List Expr} {Δ : DS} {M : Store} {k : DK} {kb : BK} {ka : AK} {p pos apos : Pos} {x f m : Str} {C : Addr} {n : Nat} {sp : SpD}
/-! ### own ==, != -/
end
section
variable {prog : Program} {w : World} {A : Around} {E : Value → Shared → Prop} {s : Shared} {K : PySem.W.Frag} {x C f : Addr} {ox : Obj} {od : Option Obj} {b : Value}
end
section
variable {X : Cx} {a b e e2 o : Expr} {es : List Expr} {Δ : DS} {M : Store} {k : DK} {kb : BK} {ka : AK} {p pos apos : Pos} {x f m : Str} {C : Addr} {n : Nat} {sp : SpD}
end
end DL
end
section
set_option Elab.async false
set_option linter.all false
set_option maxRecDepth 100000
namespace DRv
open PySem PySem.Spec PyProof.Rows HT
section
variable {prog : Program} {w : World} {A : Around} {E : Value → Shared → Prop} {s : Shared}
end
end DRv
namespace DL
open PySem L2 PyProof.Rows
section
variable {X : Cx} {a b e e2 o : Expr} {es : List Expr} {Δ : DS} {M : Store} {k : DK} {kb : BK} {ka : AK} {p pos apos : Pos} {x f m : Str} {C : Addr} {n : Nat} {sp : SpD}
/-! ### list(text), tuple(text), sep.join(texts) -/
theorem signs_vals {x : Str} {acc : Array Value} (h : ItemsOf (SignAt x) acc x.cps.size) : ∃ vs : List V, Vals vs acc.toList ∧ ∀ (K : PySem.W.Frag) (F : Hp), IsL K F (signs x) vs := by
  refine ⟨x.cps.toList.map fun c => V.str ⟨#[c]⟩, ?_, fun K F => ?_⟩
  · have e : acc.toList.length = x.cps.toList.length := by rw [Array.length_toList, h.1, Array.length_toList]
    have g : ∀ (i : Nat) (v : Value), acc.toList[i]? = some v → ∃ c u, x.cps.toList[i]? = some c ∧ v = .str ⟨#[c]⟩ u := fun i v hv => by
      obtain ⟨c, u, h1, h2⟩ := h.2 i v (by rw [← Array.getElem?_toList]; exact hv)
      exact ⟨c, u, by rw [Array.getElem?_toList]; exact h1, h2⟩
    generalize acc.toList = as at e g
    generalize x.cps.toList = cs at e g
    induction cs generalizing as with
    | nil =>
      cases as with
      | nil => exact .nil
      | cons _ _ => cases e
    | cons c cs ih =>
      cases as with
      | nil => cases e
      | cons u as =>
        obtain ⟨c', t, h1, h2⟩ := g 0 u rfl
        cases h1
        exact .cons ⟨t, h2⟩ (ih as (by simpa using e) fun i v hv => g (i + 1) v hv)
  · unfold signs
    generalize x.cps.toList = cs
    induction cs with
    | nil => exact IsL.nil
    | cons c cs ih => exact IsL.cons (is_str.2 rfl) ih
theorem cr_listS (hc : X.calm = true) : CallR X (.type "list") (fun xs H Q => ∃ z : Str, xs = [.str z] ∧ z.cps.size ≤ sizeLine ∧ ∀ vs l, (∀ (K : PySem.W.Frag) (F : Hp), IsL K F (signs z) vs) → H l = none → Q (.ref l) (upd H l (.lst vs))) := by
  intro pins s σ H xs us Q I r h
  obtain ⟨z, rfl, hz, q⟩ := h
  obtain ⟨u, rfl, rx⟩ := vals1 r
  obtain ⟨t, rfl⟩ := rx
  refine call_list_str (I.ok.hd hc) z t (fun h' tk acc c' kp e ha => ?_) hz
  obtain ⟨vs, rv, iv⟩ := signs_vals ha
  have hl : vs.length ≤ sizeLine := by rw [rv.length, Array.length_toList, ha.1]; exact hz
  exact ⟨.ref s.heap.objs.size, _, I.laid (t' := tk) kp (Nat.le_refl _) (show ObjOk X.prog X.w _ h' _ (.lst vs) from ⟨hl, acc.toList, c', rv, by simpa using e⟩), rfl, q vs _ iv (I.hok.fresh (Nat.le_refl _))⟩
theorem cr_tupleS (hc : X.calm = true) : CallR X (.type "tuple") (fun xs H Q => ∃ z : Str, xs = [.str z] ∧ z.cps.size ≤ sizeLine ∧ ∀ vs, (∀ (K : PySem.W.Frag) (F : Hp), IsL K F (signs z) vs) → NewT H vs Q) := by
  intro pins s σ H xs us Q I r h
  obtain ⟨z, rfl, hz, q⟩ := h
  obtain ⟨u, rfl, rx⟩ := vals1 r
  obtain ⟨t, rfl⟩ := rx
  refine call_tuple_str (I.ok.hd hc) z t (fun h' tk acc kp ha => ?_) hz
  obtain ⟨vs, rv, iv⟩ := signs_vals ha
  have hl : vs.length ≤ sizeLine := by rw [rv.length, Array.length_toList, ha.1]; exact hz
  have I1 : Inv X pins σ H { s with heap := h', toks := tk } := I.kept (t' := tk) kp
  have z := bare_push (t := tk) I1 (fun _ _ e => e) (Nat.le_refl _) rv hl (q vs iv)
  simpa using z
end
end DL
end
section
set_option Elab.async false
set_option linter.all false
set_option maxRecDepth 100000
namespace DL
open PySem L2 PyProof.Rows
/-! ### the order of texts -/
theorem ltC_irr : ∀ a : List Nat, Spec.ltCps a a = false
  | [] => rfl
  | a :: r => by
    show (decide (a < a) || (a == a && Spec.ltCps r r)) = false
    rw [ltC_irr r]; simp
theorem ltC_trans : ∀ {a b c : List Nat}, Spec.ltCps a b = true → Spec.ltCps b c = true → Spec.ltCps a c = true
  | [], [], _, h, _ => by cases h
  | [], _ :: _, [], _, h => by cases h
  | [], _ :: _, _ :: _, _, _ => rfl
  | _ :: _, [], _, h, _ => by cases h
  | _ :: _, _ :: _, [], _, h => by cases h
  | a :: r, b :: t, c :: u, h, g => by
    have h' : (decide (a < b) || (a == b && Spec.ltCps r t)) = true := h
    have g' : (decide (b < c) || (b == c && Spec.ltCps t u)) = true := g
    show (decide (a < c) || (a == c && Spec.ltCps r u)) = true
    simp only [Bool.or_eq_true, decide_eq_true_eq, Bool.and_eq_true, beq_iff_eq] at h' g' ⊢
    rcases h' with h' | ⟨h1, h2⟩
    · rcases g' with g' | ⟨g1, g2⟩
      · exact .inl (by omega)
      · exact .inl (by omega)
    · rcases g' with g' | ⟨g1, g2⟩
      · exact .inl (by omega)
      · exact .inr ⟨by omega, ltC_trans h2 g2⟩
theorem ltC_tri : ∀ {a b : List Nat}, Spec.ltCps a b = false → Spec.ltCps b a = false → a = b
  | [], [], _, _ => rfl
  | [], _ :: _, h, _ => by cases h
  | _ :: _, [], _, h => by cases h
  | a :: r, b :: t, h, g => by
    have h' : (decide (a < b) || (a == b && Spec.ltCps r t)) = false := h
    have g' : (decide (b < a) || (b == a && Spec.ltCps t r)) = false := g
    simp only [Bool.or_eq_false_iff, decide_eq_false_iff_not, Bool.and_eq_false_iff, beq_eq_false_iff_ne] at h' g'
    have e : a = b := by omega
    subst e
    have h2 : Spec.ltCps r t = false := by
      rcases h'.2 with z | z
      · exact absurd rfl z
      · exact z
    have g2 : Spec.ltCps t r = false := by
      rcases g'.2 with z | z
      · exact absurd rfl z
      · exact z
    rw [ltC_tri h2 g2]
def lts (x y : Str) : Bool := Spec.ltCps x.cps.toList y.cps.toList
theorem lts_irr (x : Str) : lts x x = false := ltC_irr _
theorem lts_trans {x y z : Str} (h : lts x y = true) (g : lts y z = true) : lts x z = true := ltC_trans h g
theorem lts_tri {x y : Str} (h : lts x y = false) (g : lts y x = false) : x = y := by
  have e := ltC_tri h g
  obtain ⟨a⟩ := x
  obtain ⟨b⟩ := y
  have e' : a.toList = b.toList := e
  rw [Array.toList_inj.mp e']
/-- strictly rising -/
def SP (l : List Str) : Prop := l.Pairwise fun a b => lts a b = true
def insS (x : Str) : List Str → List Str
  | [] => [x]
  | y :: r => if lts x y = true then x :: y :: r else if lts y x = true then y :: insS x r else y :: r
def ss : List Str → List Str
  | [] => []
  | x :: r => insS x (ss r)
theorem mem_insS {x z : Str} : ∀ {l : List Str}, z ∈ insS x l ↔ z = x ∨ z ∈ l
  | [] => by unfold insS; simp
  | y :: r => by
    unfold insS
    split
    · simp
    · rename_i h1
      split
      · rw [List.mem_cons, List.mem_cons, mem_insS (l := r)]
        constructor
        · rintro (h | h | h) <;> simp [h]
        · rintro (h | h | h) <;> simp [h]
      · rename_i h2
        have e : x = y := lts_tri (by simpa using h1) (by simpa using h2)
        subst e
        simp
theorem mem_ss {z : Str} : ∀ {l : List Str}, z ∈ ss l ↔ z ∈ l
  | [] => by unfold ss; exact Iff.rfl
  | x :: r => by unfold ss; rw [mem_insS, mem_ss (l := r), List.mem_cons]
theorem sp_insS {x : Str} : ∀ {l : List Str}, SP l → SP (insS x l)
  | [], _ => by unfold insS; exact List.pairwise_singleton _ _
  | y :: r, h => by
    unfold insS
    obtain ⟨h1, h2⟩ := List.pairwise_cons.mp h
    split
    · rename_i hx
      refine List.pairwise_cons.mpr ⟨fun z hz => ?_, h⟩
      rcases List.mem_cons.mp hz with e | hz
      · rw [e]; exact hx
      · exact lts_trans hx (h1 z hz)
    · split
      · rename_i _ hy
        refine List.pairwise_cons.mpr ⟨fun z hz => ?_, sp_insS h2⟩
        rcases mem_insS.mp hz with e | hz
        · rw [e]; exact hy
        · exact h1 z hz
      · exact h
theorem sp_ss : ∀ l : List Str, SP (ss l)
  | [] => by unfold ss; exact List.Pairwise.nil
  | x :: r => by unfold ss; exact sp_insS (sp_ss r)
theorem rising_pair : ∀ {x : Str} {l : List Str}, risingS x l = true → (x :: l).Pairwise fun a b => lts b a = false
  | _, [], _ => List.pairwise_singleton _ _
  | x, y :: l, h => by
    have h' : (!Spec.ltCps y.cps.toList x.cps.toList && risingS y l) = true := h
    rw [Bool.and_eq_true] at h'
    have hyx : lts y x = false := by simpa [lts] using h'.1
    have ih := rising_pair h'.2
    obtain ⟨i1, i2⟩ := List.pairwise_cons.mp ih
    refine List.pairwise_cons.mpr ⟨fun z hz => ?_, ih⟩
    rcases List.mem_cons.mp hz with e | hz
    · rw [e]; exact hyx
    · cases c : lts z x with
      | false => rfl
      | true =>
        -- z < x and not z < y gives y <= z < x
        exfalso
        have hzy := i1 z hz
        cases c2 : lts y z with
        | true =>
          rw [lts_trans c2 c] at hyx
          cases hyx
        | false =>
          have e := lts_tri hzy c2
          subst e
          rw [c] at hyx
          cases hyx
theorem sorted_pair {l : List Str} (h : sortedS l = true) : l.Pairwise fun a b => lts b a = false := by
  cases l with
  | nil => exact List.Pairwise.nil
  | cons x r => exact rising_pair h
/-! ### finishers for texts and truths in a row -/
end DL
end
section
set_option Elab.async false
set_option linter.all false
set_option maxRecDepth 100000
namespace DL
open PySem L2 PyProof.Rows
/-! ### finishers for rows of texts, of truths -/
def NmL (xs : List Str) : Prop := ∀ x ∈ xs, PyData.strOk x = true ∧ x.cps.size ≤ 50
section
variable {M : Store} {k : DK} {xs ys : List Str} {bs cs : List Bool} {d : D} {x : Str}
end
/-- texts out of a written row -/
def unS : List D → Option (List Str)
  | [] => some []
  | .str x :: r => (unS r).map (x :: ·)
  | _ => none
theorem strL : ∀ {ds : List D} {xs : List Str}, unS ds = some xs → some ds = some (xs.map D.str)
  | [], _, h => by cases h; rfl
  | .str x :: r, xs, h => by
    obtain ⟨ys, h1, h2⟩ := Option.map_eq_some_iff.mp (show (unS r).map (x :: ·) = some xs from h)
    subst h2
    rw [List.map_cons, ← Option.some.inj (strL h1)]
  | .non :: _, _, h => by cases h
  | .bl _ :: _, _, h => by cases h
  | .int _ :: _, _, h => by cases h
  | .ty _ :: _, _, h => by cases h
  | .tup _ :: _, _, h => by cases h
  | .lst _ :: _, _, h => by cases h
  | .frl _ :: _, _, h => by cases h
  | .dct _ _ :: _, _, h => by cases h
  | .ins _ _ _ :: _, _, h => by cases h
  | .cell _ :: _, _, h => by cases h
/-! ### equality of data, by computing -/
/-! ### comprehensions whose parts are plain -/
section
variable {X : Cx} {tg iter elt : Expr} {ifs : List Expr} {scope : Scope} {vs : List Nat} {Δ : DS} {M : Store} {ka : AK} {α : Type}
end
end DL
end
section
set_option Elab.async false
set_option linter.all false
set_option maxRecDepth 100000
namespace DL
open PySem L2 PyProof.Rows
section
variable {P : Program} {w : World} {K : PySem.W.Frag} {mg : Str → Option Value} {base : Heap}
abbrev FnD (K : PySem.W.Frag) (x qual : Str) (st : Stmt) (dvs : List V) (f : Addr) (fd : FuncData) : Prop := FunD K x qual (defArgs st) (defBody st) (defScope st) dvs [] f fd
theorem ok_dD {x qual : Str} {st : Stmt} {f : Addr} {fd : FuncData} {N ps : List Str} {n : Nat} {sp : SpD} {dvs : List V} (Fn : FnD K x qual st dvs f fd) (S : FnScope N ps (defScope st)) (len : ∀ ds M k, sp ds M k → ds.length = ps.length)
    (hbody : ∀ (cdv : Value) (A : Around) (outer : List Env) (s : Shared) (H : Hp) (E : XK) (ds : List D) (M : Store) (k : DK), Room n (A.deeper (PyProof.Rows.envOfC qual (defScope st) s.heap.objs.size f cdv)) → sp ds M k →
      SsD (XOf P w K mg base N qual st f cdv A outer s H E) (defBody st) (startD N ds) M { nx := fun _ M' => k .non M', rt := k }) : FnOk P w K mg base CX0 (n + 1) f fd ps (spOf K sp) := by
  refine Fn.ok S (fun vs H Q E ⟨ds, F, M, k, il, ok, h, post⟩ => by rw [← il.length]; exact len ds M k h) fun cdv A outer s H vs Q E hr ⟨ds, F, M, k, il, ok, h, post⟩ => ?_
  refine ⟨_, PSs.nox pss_sem, hbody cdv A outer s H E ds M k hr h F H (L2.start N vs) _ (start_is il) ok ⟨fun Δ' M' F' H' σ' q st' ok' _ => post .non M' F' H' .non q st' ok' (is_non.2 rfl), post, fun _ _ _ _ _ q => q.elim, fun _ _ _ _ _ q => q.elim⟩⟩
end
section
variable {X : Cx} {Δ : DS} {M : Store} {k : DK} {pos : Pos} {x : Str}
end
theorem nm_sum : ∀ {ns : List Str}, NmL ns → (ns.map (·.length)).sum ≤ ns.length * 50
  | [], _ => by simp
  | x :: r, h => by
    have h1 := (h x (List.mem_cons_self ..)).2
    have h2 := nm_sum (ns := r) fun z hz => h z (List.mem_cons_of_mem _ hz)
    have h3 : x.length = x.cps.size := rfl
    rw [List.map_cons, List.sum_cons, List.length_cons]
    omega
theorem jsz {ns : List Str} {z : Str} (h : NmL ns) (hl : ns.length ≤ 1000) (hz : z.length ≤ 50) : (ns.map (·.length)).sum + ns.length * z.length ≤ 16777216 := by
  have h1 := nm_sum h
  have h2 : ns.length * z.length ≤ ns.length * 50 := Nat.mul_le_mul_left _ hz
  omega
theorem jsz2 {ns : List Str} {z : Str} (h : NmL ns) (hl : ns.length ≤ 1000) (hz : z.length ≤ 50) : (Txt.join z ns).length ≤ 100000 := by
  have h1 := nm_sum h
  have h2 : ns.length * z.length ≤ ns.length * 50 := Nat.mul_le_mul_left _ hz
  have h3 := StrLaws.join_length_le z ns
  have h4 : (Txt.join z ns).length ≤ (ns.map (·.length)).sum + ns.length * z.length := by rw [TL.join_eq]; exact h3
  omega
/-- what stands stays, but for u -/
def Keep (u : Addr) (M M' : Store) : Prop := ∀ q m, q ≠ u → M q = some m → M' q = some m
theorem Keep.refl {u : Addr} {M : Store} : Keep u M M := fun _ _ _ h => h
theorem Keep.trans {u : Addr} {M M1 M2 : Store} (a : Keep u M M1) (b : Keep u M1 M2) : Keep u M M2 := fun q m n h => b q m n (a q m n h)
theorem Keep.mup {u : Addr} {M : Store} {m : MO} : Keep u M (mup M u m) := fun q m' n h => by rw [mup_ne n]; exact h
theorem Keep.new {u q : Addr} {M M' : Store} {m : MO} (a : Keep u M M') (h : M q = none) : Keep u M (DL.mup M' q m) := fun r m' n e => by
  have z : r ≠ q := fun z => by rw [z, h] at e; cases e
  rw [mup_ne z]; exact a r m' n e
/-! ### new instances, frozen at once -/
section
variable {X : Cx} {e : Expr} {es : List Expr} {Δ : DS} {M : Store} {k : DK} {p pos : Pos} {x : Str} {C : Addr} {n : Nat} {sp : SpD} {dv : List D} {kws : List Keyword} {kn : List Str} {gD : List D → List D → List D}
end
/-! ### tests of the head -/
section
open PySem.W He He5
variable {K : Frag}
end
end DL
end
section
set_option Elab.async false
set_option linter.all false
set_option maxRecDepth 100000
set_option maxHeartbeats 4000000
/-! sets of ints and texts: set(xs), sorted of it -/
namespace DSet
open PySem PySem.Spec PyProof.Rows L2
def ke (e : Int × Value) : Key := match e.2 with
  | .int i _ => .inl i
  | .str x _ => .inr x
  | _ => .inl 0
def Ge (w : World) (e : Int × Value) : Prop := ∃ c : Key, keyIs c e.2 = true ∧ e.1 = keyH w c
theorem ke_of {e : Int × Value} {c : Key} (h : keyIs c e.2 = true) : ke e = c := by
  unfold ke
  rcases keyIs_shape h with ⟨i, t, rfl, e2⟩ | ⟨x, t, rfl, e2⟩ <;> rw [e2]
theorem ke_is {w : World} {e : Int × Value} (g : Ge w e) (c : Key) : keyIs c e.2 = true ↔ ke e = c := by
  obtain ⟨d, h1, _⟩ := g
  constructor
  · exact fun h => ke_of h
  · intro h
    rw [← h, ke_of h1]
    exact h1
/-- the set at a holds just S, n of them; it can be walked -/
def SK (w : World) (h : Heap) (a : Addr) (S : Key → Bool) (n : Nat) : Prop :=
  ∃ o es ep t, h.get? a = some o ∧ o.ExactSet ∧ o.data = .set es ep t ∧ (∀ e ∈ es.toList, Ge w e) ∧ (es.toList.map ke).Nodup ∧ (∀ c, S c = true ↔ c ∈ es.toList.map ke) ∧
    es.size < scanBound ∧ t.fits es.size = true ∧ es.size = n ∧ Ris t.place.toList ∧ (w.params.followText "set-order" = true ∨ t.led = true)
section
variable {P : Program} {w : World} {h h' : Heap} {a : Addr} {S : Key → Bool} {n : Nat}
theorem SK.keep (R : SK w h a S n) (k : ∀ o, h.get? a = some o → h'.get? a = some o) : SK w h' a S n := by
  obtain ⟨ob, es, ep, t, ho, rr⟩ := R
  exact ⟨ob, es, ep, t, k ob ho, rr⟩
theorem Ge.mem {l : List (Int × Value)} (g : ∀ e ∈ l, Ge w e) (c : Key) : c ∈ l.map ke ↔ ∃ e ∈ l, (mixKind P w).is c e.2 = true := by
  rw [List.mem_map]
  constructor
  · rintro ⟨e, he, q⟩
    exact ⟨e, he, (ke_is (g e he) c).2 q⟩
  · rintro ⟨e, he, q⟩
    exact ⟨e, he, (ke_is (g e he) c).1 q⟩
end
section
variable {P : Program} {w : World} {A : Around} {E : Value → Shared → Prop} {s : Shared} {a : Addr} {S : Key → Bool} {n : Nat}
/-- the empty set as it is made -/
abbrev freshSet (w : World) : Obj := { cls := .type "set", dict := none, data := .set #[] 0 (.fresh 0 0 (!w.params.followText "set-order")) }
theorem SK.fresh {h : Heap} {cs : List Key} (ho : h.get? a = some (freshSet w)) : SK w h a (fun j => decide (j ∈ cs.take 0)) 0 :=
  ⟨_, #[], 0, _, ho, ⟨rfl, rfl, rfl⟩, rfl, (fun e he => by simp at he), (by simp), (fun k => by simp), (by decide), (by rfl), rfl, List.Pairwise.nil, by
    show _ ∨ (!w.params.followText "set-order") = true
    cases w.params.followText "set-order"
    · exact .inr rfl
    · exact .inl rfl⟩
end
end DSet
end
section
set_option Elab.async false
set_option linter.all false
set_option maxRecDepth 100000
set_option maxHeartbeats 4000000
namespace DSet
open PySem PySem.Spec PyProof.Rows L2
section
variable {P : Program} {w : World} {A : Around} {E : Value → Shared → Prop} {s : Shared}
/-- set.update over what is walked leaves J -/
structure LoopOk (P : Program) (w : World) (A : Around) (s : Shared) (items : Array Value) (S : Addr) (J : Heap → Prop) : Prop where
  go : ∀ {I : Addr} {fp wr : List Addr} {G : Array GenState → Array GenState → Prop} {n : Nat} {Pv : Nat → Value → Prop} {St : Nat → Shared → Prop} {R : Result → Shared → Prop} (W : WalksS P w A.in1 I fp wr G n Pv St), S ∉ fp → n = items.size → (∀ i v, Pv i v → items[i]? = some v) →
    (∀ b ∈ wr, s.heap.get? b = none) → ∀ s1 : Shared, St 0 s1 → s1.heap.get? S = some (freshSet w) → (∀ b o, s.heap.get? b = some o → s1.heap.get? b = some o) → (∀ s2, Moved (S :: wr) G s1 s2 → J s2.heap → R (.ok (.ret .none)) s2) →
    codeAny (model P w) A (.builtin "set.update.loop" ⟨[.ref S, .ref I], []⟩) R s1
end
end DSet
end
section
set_option Elab.async false
set_option linter.all false
set_option maxRecDepth 100000
namespace DL
open PySem L2 PyProof.Rows
/-- what stands stays -/
def Keep0 (M M' : Store) : Prop := ∀ q m, M q = some m → M' q = some m
theorem Keep0.refl {M : Store} : Keep0 M M := fun _ _ h => h
theorem Keep0.trans {M M1 M2 : Store} (a : Keep0 M M1) (b : Keep0 M1 M2) : Keep0 M M2 := fun q m h => b q m (a q m h)
theorem Keep0.new {q : Addr} {M M' : Store} {m : MO} (a : Keep0 M M') (h : M q = none) : Keep0 M (mup M' q m) := fun r m' e => by
  have z : r ≠ q := fun z => by rw [z, h] at e; cases e
  rw [mup_ne z]; exact a r m' e
theorem Keep0.none {q : Addr} {M M' : Store} (a : Keep0 M M') (h : M' q = none) : M q = none := by
  cases e : M q with
  | none => rfl
  | some m => rw [a q m e] at h; cases h
theorem Keep.none {u q : Addr} {M M' : Store} (a : Keep u M M') (hn : q ≠ u) (h : M' q = none) : M q = none := by
  cases e : M q with
  | none => rfl
  | some m => rw [a q m hn e] at h; cases h
theorem Keep.of0 {u : Addr} {M M' : Store} (a : Keep0 M M') : Keep u M M' := fun q m _ e => a q m e
theorem Urn.some {M : Store} {u : Addr} {n : Nat} (h : Urn M u n) : M u ≠ none := by
  obtain ⟨a, b, c, h1, h2⟩ := h
  rw [h1]; simp
/-- a draw: any number below low -/
def spTake : SpD := fun ds M k => ∃ u low n, ds = [.cell u, .int low] ∧ 0 < low ∧ low.natAbs.log2 < 9000 ∧ Urn M u (n + 1) ∧ ∀ d M', 0 ≤ d → d < low → Keep u M M' → Urn M' u n → k (.int d) M'
/-! ### x or y of lists -/
section
variable {X : Cx} {a b : Expr} {rest : List Expr} {Δ : DS} {M : Store} {k : DK} {pos : Pos}
end
end DL
end
section
set_option Elab.async false
set_option linter.all false
set_option maxRecDepth 100000
namespace DL
open PySem L2 PyProof.Rows
/-! ### rows by places -/
theorem atI_nat {α : Type} {xs : List α} {j : Nat} {x : α} (h : xs[j]? = some x) : atI xs (j : Nat) = some x := by
  have hj := (List.getElem?_eq_some_iff.mp h).1
  unfold atI ixN
  rw [if_pos (by omega), if_pos (by omega), Int.toNat_natCast]
  exact h
theorem zip_map {α : Type} (f g : α → D) (xs : List α) : zipD (xs.map f) (xs.map g) = xs.map fun x => .tup [f x, g x] := by
  unfold zipD
  induction xs with
  | nil => rfl
  | cons x xs ih => rw [List.map_cons, List.map_cons, List.zip_cons_cons, List.map_cons, ih]; rfl
theorem zip_self (xs : List D) : zipD xs xs = xs.map fun x => .tup [x, x] := by
  have := zip_map (fun x => x) (fun x => x) xs
  rw [List.map_id'] at this
  exact this
/-- plain data: n deep -/
def Pl : Nat → D → Prop
  | _, .non => True
  | _, .bl _ => True
  | _, .int _ => True
  | _, .str _ => True
  | n + 1, .tup ds => ds.length ≤ sizeLine ∧ ∀ d ∈ ds, Pl n d
  | n + 1, .lst ds => ds.length ≤ sizeLine ∧ ∀ d ∈ ds, Pl n d
  | _, _ => False
end DL
end
section
set_option Elab.async false
set_option linter.all false
set_option maxRecDepth 100000
namespace DL
open PySem L2 PyProof.Rows
theorem lg {z : Int} (h0 : 0 < z) (h : z < 2 ^ 200) : z.natAbs.log2 < 9000 := by
  have h1 : z.natAbs < 2 ^ 200 := by omega
  have h2 : z.natAbs ≠ 0 := by omega
  have h3 : z.natAbs.log2 < 200 := (Nat.log2_lt h2).mpr h1
  omega
end DL
end
section
set_option Elab.async false
set_option linter.all false
set_option maxRecDepth 100000
/-! DL: dicts: comprehensions, keys -/
namespace DL
open PySem L2
theorem sem_lockP {X : Cx} {e : Expr} {σ : L2.St} {H : Hp} {Q : VK} (h : Sem X e σ H fun v H' => Q v H' ∨ ∃ d u, H' d = some u ∧ Mut (some u) ∧ ∀ od, Q v (upd H' d (.frz od u))) : Sem X e σ H Q := fun pins s I =>
  thn (h pins s I) fun v s1 ⟨x, H1, I1, r, q⟩ => by
    rcases q with q | ⟨d, u, hd, mu, q⟩
    · exact ⟨x, H1, I1, r, q⟩
    · obtain ⟨od, I2⟩ := I1.lock hd mu
      exact ⟨x, _, I2, r, q od⟩
def dputD (ks : List Key) (ds : List D) (k : Key) (r : D) : List Key × List D :=
  if (ks.any fun c => decide (c = k)) = true then (ks, (ks.zip ds).map fun p => if p.1 = k then r else p.2) else (ks ++ [k], ds ++ [r])
section
variable {K : PySem.W.Frag} {F : Hp}
theorem zip_any {α : Type} (k : Key) : ∀ {ks : List Key} {vs : List α}, ks.length = vs.length → ((ks.zip vs).any fun kv => decide (kv.1 = k)) = ks.any fun c => decide (c = k)
  | [], [], _ => rfl
  | _ :: ks, _ :: vs, l => by
    have ih := zip_any k (ks := ks) (vs := vs) (by simpa using l)
    rw [List.zip_cons_cons, List.any_cons, List.any_cons, ih]
  | [], _ :: _, l => by simp at l
  | _ :: _, [], l => by simp at l
theorem zip_put (k : Key) (v : V) : ∀ {ks : List Key} {vs : List V}, ks.length = vs.length → (ks.zip vs).map (fun kv => if kv.1 = k then (kv.1, v) else kv) = ks.zip ((ks.zip vs).map fun p => if p.1 = k then v else p.2)
  | [], [], _ => rfl
  | c :: ks, u :: vs, l => by
    have ih := zip_put k v (ks := ks) (vs := vs) (by simpa using l)
    rw [List.zip_cons_cons, List.map_cons, List.map_cons, List.zip_cons_cons, ih]
    congr 1
    by_cases h : c = k
    · simp [h]
    · simp [h]
  | [], _ :: _, l => by simp at l
  | _ :: _, [], l => by simp at l
theorem isL_put (k : Key) {r : D} {v : V} (i : Is K F r v) : ∀ {ks : List Key} {ds : List D} {vs : List V}, ks.length = ds.length → IsL K F ds vs → IsL K F ((ks.zip ds).map fun p => if p.1 = k then r else p.2) ((ks.zip vs).map fun p => if p.1 = k then v else p.2)
  | [], [], _, _, il => by rw [isL_nil.1 il]; exact IsL.nil
  | c :: ks, d :: ds, _, l, il => by
    obtain ⟨u, us, rfl, h1, h2⟩ := isL_cons.1 il
    have ih := isL_put k i (ks := ks) (ds := ds) (vs := us) (by simpa using l) h2
    rw [List.zip_cons_cons, List.map_cons, List.zip_cons_cons, List.map_cons]
    refine IsL.cons ?_ ih
    by_cases h : c = k
    · simp only [h, if_true]; exact i
    · simp only [h, if_false]; exact h1
  | [], _ :: _, _, l, _ => by simp at l
  | _ :: _, [], _, l, _ => by simp at l
theorem put_is {ks : List Key} {ds : List D} {vs : List V} {k : Key} {r : D} {v : V} (l : ks.length = ds.length) (il : IsL K F ds vs) (i : Is K F r v) :
    ∃ vs', putK (ks.zip vs) k v = (dputD ks ds k r).1.zip vs' ∧ (dputD ks ds k r).1.length = (dputD ks ds k r).2.length ∧ IsL K F (dputD ks ds k r).2 vs' := by
  have lv : ks.length = vs.length := by rw [l, il.length]
  unfold putK dputD
  rw [zip_any k lv]
  split
  · refine ⟨_, zip_put k v lv, ?_, isL_put k i l il⟩
    show ks.length = _
    rw [List.length_map, List.length_zip]; omega
  · refine ⟨vs ++ [v], ?_, by simp [l], il.app (IsL.cons i IsL.nil)⟩
    rw [List.zip_append lv]; rfl
end
section
variable {X : Cx} {Δ : DS} {M : Store} {tg e : Expr} {k : DK} {pos : Pos}
/-- what a dict comprehension asks, of the items -/
def DcQ (X : Cx) (scope : Scope) (kx vx tg : Expr) (ifs : List Expr) (vs : List Nat) (Δ : DS) (k : DK) : AK := fun ds M1 => ∃ I : Nat → List Key → List D → Store → Prop, I 0 [] [] M1 ∧
    (∀ i d ck cd M', ds[i]? = some d → I i ck cd M' → ck.length < sizeLine ∧ ∃ Δ1 sl, (∀ j ∈ sl, j ∈ vs) ∧ (∀ s H C cl fp, GdD (Blk X scope s H C cl fp) tg d (wipeD Δ vs) Δ1 sl) ∧
      ∃ kb : BK, (∀ s H C cl fp, TsD (Blk X scope s H C cl fp) ifs Δ1 M' kb) ∧
        ∀ c M2, kb c M2 → if c = true then ∃ ke : DK, (∀ s H C cl fp, EvD (Blk X scope s H C cl fp) kx Δ1 M2 ke) ∧ ∀ r M3, ke r M3 → ∃ q, keyOf r = some q ∧ ∃ kf : DK, (∀ s H C cl fp, EvD (Blk X scope s H C cl fp) vx Δ1 M3 kf) ∧ ∀ r2 M4, kf r2 M4 → I (i + 1) (dputD ck cd q r2).1 (dputD ck cd q r2).2 M4 else I (i + 1) ck cd M2) ∧
    (∀ ck cd M', I ds.length ck cd M' → k (.dct ck cd) M')
theorem ev_dc {scope : Scope} {own : List (Str × Nat)} {kx vx iter : Expr} {ifs : List Expr} (hc : X.calm = true) (hN : X.N.Nodup) (ok : BlkOk X.N X.env.scope scope own) (hl : ifs.length ≤ 1) (h : ItD X tg iter Δ M (DcQ X scope kx vx tg ifs (own.map (·.2)) Δ k))
    (hs : ∀ x, foldedSetIterable iter X.env x = pure x := by intro _; rfl) : EvD X (.DictComp kx vx [⟨tg, iter, ifs, 0⟩] scope pos) Δ M k := fun F H σ Q hS okk post => by
  generalize hvs : own.map (·.2) = vs at h
  refine sem_lockP (sem_of (pe_dc hc hN pi_sem ok (fun s H C cl fp => pgB s H C cl fp) (fun s H C cl fp => ptsB s H C cl fp hl) (fun s H C cl fp => peB s H C cl fp) (fun s H C cl fp => peB s H C cl fp) hs) ?_)
  rw [hvs]
  refine h F H σ _ hS okk fun ds M1 F1 H1 J ⟨I, h0, hstep, hend⟩ st ok1 rep => ?_
  intro q hq
  have hq0 : H q = none := by
    cases z : H q with
    | none => rfl
    | some u => exact absurd hq (st.there q (by rw [z]; simp))
  refine ⟨fun i m H' => ∃ M' F' ck cd us, m = ds.length - i ∧ i ≤ ds.length ∧ Stp F1 M1 H1 F' M' H' ∧ Ok X.K F' M' H' ∧ F' q = none ∧ M' q = none ∧ H' q = some (.dK (ck.zip us)) ∧ ck.length = cd.length ∧ IsL X.K F' cd us ∧ I i ck cd M',
    ⟨ds.length, M1, F1, [], [], [], rfl, Nat.zero_le _, ?_, ?_, (ok1.fresh hq).1, (ok1.fresh hq).2, upd_same, rfl, IsL.nil, h0⟩, ?_⟩
  · refine ⟨Same.refl _, fun a u e => .inl e, fun a u e _ => ?_, fun a m _ => m, fun a n => ?_⟩
    · rw [upd_ne (ne_of_none e hq)]; exact e
    · by_cases z : a = q
      · subst z; exact absurd hq n
      · rw [upd_ne z]; exact n
  · refine ⟨fun a u e => ?_, fun a m e => ?_⟩
    · have z : a ≠ q := fun z => by rw [z, (ok1.fresh hq).1] at e; cases e
      rw [upd_ne z]; exact ok1.sub a u e
    · have z : a ≠ q := fun z => by rw [z, (ok1.fresh hq).2] at e; cases e
      obtain ⟨g1, u, g2, g3⟩ := ok1.mem a m e
      exact ⟨g1, u, by rw [upd_ne z]; exact g2, g3⟩
  · rintro i m H' ⟨M', F', ck, cd, us, rfl, hi, st', ok', fF, fM, hL, lk, il, hI⟩
    by_cases hlt : i < ds.length
    · refine .inr ⟨rep.go i F' M' H' st' ok' hlt, fun H2 => ∃ M2 F2 ck cd us, Stp F1 M1 H1 F2 M2 H2 ∧ Ok X.K F2 M2 H2 ∧ F2 q = none ∧ M2 q = none ∧ H2 q = some (.dK (ck.zip us)) ∧ ck.length = cd.length ∧ IsL X.K F2 cd us ∧ I (i + 1) ck cd M2,
        fun H2 ⟨M2, F2, ck, cd, us, a1, a2, a3, a4, a5, a6, a7, a8⟩ => ⟨ds.length - (i + 1), by omega, M2, F2, ck, cd, us, rfl, hlt, a1, a2, a3, a4, a5, a6, a7, a8⟩, fun v H2 y => ?_⟩
      obtain ⟨F2, d, hd, st2, ok2, iv⟩ := rep.yld i F' M' H' v H2 st' ok' hlt y
      obtain ⟨hlen, Δ1, sl, hsl, hg, kb, ht, hb⟩ := hstep i d ck cd M' hd hI
      have hS2 : IsS X.K F2 (wipeD Δ vs) (wipe σ vs) := (hS.mono ((st.trans st').trans st2).ext).wipe vs
      have stay : ∀ {F3 M3 H3}, Stp F' M' H' F3 M3 H3 → F3 q = none ∧ M3 q = none ∧ H3 q = some (.dK (ck.zip us)) := fun {F3 M3 H3} s3 => by
        refine ⟨?_, s3.dom q fM (by rw [hL]; simp), s3.keep q _ hL fM⟩
        cases z : F3 q with
        | none => rfl
        | some u =>
          rcases s3.new q u z with w | w | w
          · rw [fF] at w; cases w
          · rw [hL] at w; cases w
          · exact absurd fM w
      intro s0 H0 C cl fp
      refine hg s0 H0 C cl fp F2 M' H2 _ v _ hS2 ok2 iv fun σ2 hSσ hw => ⟨?_, ?_⟩
      · rw [hw vs hsl]
        have ww : ∀ l : List Nat, (∀ j ∈ l, j ∈ vs) → wipe (wipe σ l) vs = wipe σ vs := fun l => by
          induction l with
          | nil => intro _; rfl
          | cons j l ih =>
            intro hl
            show wipe ((wipe σ l).set j none) vs = _
            rw [wipe_set (hl j (by simp)), ih fun j hj => hl j (List.mem_cons_of_mem _ hj)]
        exact ww vs fun j hj => hj
      · have after : ∀ c M3 F3 H3, kb c M3 → Stp F2 M' H2 F3 M3 H3 → Ok X.K F3 M3 H3 → (if c = true then tBlkE X scope kx σ2 H3 fun y H4 => tBlkE X scope vx σ2 H4 fun z H5 => ∃ kvs k, y = kV k ∧ H5 q = some (.dK kvs) ∧ kvs.length < sizeLine ∧ (∃ M2 F2 ck cd us, Stp F1 M1 H1 F2 M2 (upd H5 q (.dK (putK kvs k z))) ∧ Ok X.K F2 M2 (upd H5 q (.dK (putK kvs k z))) ∧ F2 q = none ∧ M2 q = none ∧ (upd H5 q (.dK (putK kvs k z))) q = some (.dK (ck.zip us)) ∧ ck.length = cd.length ∧ IsL X.K F2 cd us ∧ I (i + 1) ck cd M2)
            else ∃ M2 F2 ck cd us, Stp F1 M1 H1 F2 M2 H3 ∧ Ok X.K F2 M2 H3 ∧ F2 q = none ∧ M2 q = none ∧ H3 q = some (.dK (ck.zip us)) ∧ ck.length = cd.length ∧ IsL X.K F2 cd us ∧ I (i + 1) ck cd M2) := fun c M3 F3 H3 kc s3 ok3 => by
          have hbc := hb c M3 kc
          have s23 := st2.trans s3
          cases c with
          | true =>
            rw [if_pos rfl] at hbc ⊢
            obtain ⟨ke, hev, hke⟩ := hbc
            intro s1 H9 C9 cl9 fp9
            refine hev s1 H9 C9 cl9 fp9 F3 H3 σ2 _ (hSσ.mono s3.ext) ok3 fun r M4 F4 H4 u kr s4 ok4 ir => ?_
            obtain ⟨c, hkey, kf, hev2, hkf⟩ := hke r M4 kr
            intro s1 H9 C9 cl9 fp9
            refine hev2 s1 H9 C9 cl9 fp9 F4 H4 σ2 _ ((hSσ.mono s3.ext).mono s4.ext) ok4 fun r2 M5 F5 H5 u2 kr2 s5 ok5 ir2 => ?_
            have s25 := (s23.trans s4).trans s5
            obtain ⟨b1, b2, b3⟩ := stay s25
            have l1 := (il.mono s25.ext)
            obtain ⟨us', e1, e2, e3⟩ := put_is (k := c) lk l1 ir2
            refine ⟨_, c, key_is hkey ir, b3, ?_, M5, F5, (dputD ck cd c r2).1, (dputD ck cd c r2).2, us', ?_, ?_, b1, b2, ?_, e2, e3, hkf r2 M5 kr2⟩
            · rw [List.length_zip, ← il.length, lk]
              rw [lk] at hlen
              omega
            · have s14 := st'.trans s25
              refine ⟨s14.ext, s14.new, fun a w e m => ?_, s14.dom, fun a n => ?_⟩
              · rw [upd_ne (ne_of_none e hq)]; exact s14.keep a w e m
              · by_cases z : a = q
                · subst z; exact absurd hq n
                · rw [upd_ne z]; exact s14.there a n
            · refine ⟨fun a w e => ?_, fun a m e => ?_⟩
              · have z : a ≠ q := fun z => by rw [z, b1] at e; cases e
                rw [upd_ne z]; exact ok5.sub a w e
              · have z : a ≠ q := fun z => by rw [z, b2] at e; cases e
                obtain ⟨g1, w, g2, g3⟩ := ok5.mem a m e
                exact ⟨g1, w, by rw [upd_ne z]; exact g2, g3⟩
            · rw [upd_same, e1]
          | false =>
            rw [if_neg Bool.false_ne_true] at hbc ⊢
            obtain ⟨b1, b2, b3⟩ := stay s23
            exact ⟨M3, F3, ck, cd, us, st'.trans s23, ok3, b1, b2, b3, lk, il.mono s23.ext, hbc⟩
        match ifs, ht with
        | [], ht => exact after true M' F2 H2 (ht s0 H0 C cl fp) Stp.refl ok2
        | [c], ht =>
          intro s1 H9 C9 cl9 fp9
          exact ht s1 H9 C9 cl9 fp9 F2 H2 σ2 _ hSσ ok2 fun c M3 F3 H3 kc s3 ok3 => after c M3 F3 H3 kc s3 ok3
        | c :: c2 :: r, ht => exact (ht s0 H0 C cl fp).elim
    · have e : i = ds.length := by omega
      subst e
      refine .inl ⟨rep.stop F' M' H' st' ok', .inr ⟨q, _, hL, trivial, fun od => ?_⟩⟩
      have s1 := st.trans st'
      refine post _ M' (upd F' q (.frz od (.dK (ck.zip us)))) _ _ (hend ck cd M' hI) ?_ ?_ (is_dct.2 ⟨q, us, od, rfl, upd_same, lk, il.mono (same_new fF)⟩)
      · refine ⟨s1.ext.trans (same_new fF), fun a w e => ?_, fun a w e n => ?_, s1.dom, fun a n => ?_⟩
        · by_cases z : a = q
          · subst z; exact .inr (.inl hq0)
          · rw [upd_ne z] at e; exact s1.new a w e
        · rw [upd_ne (ne_of_none e hq0)]; exact s1.keep a w e n
        · by_cases z : a = q
          · rw [z, upd_same]; simp
          · rw [upd_ne z]; exact s1.there a n
      · refine ⟨fun a w e => ?_, fun a m e => ?_⟩
        · by_cases z : a = q
          · subst z; rw [upd_same] at e ⊢; exact .inl e
          · rw [upd_ne z] at e ⊢; exact ok'.sub a w e
        · have z : a ≠ q := fun z => by rw [z, fM] at e; cases e
          obtain ⟨g1, w, g2, g3⟩ := ok'.mem a m e
          exact ⟨by rw [upd_ne z]; exact g1, w, by rw [upd_ne z]; exact g2, g3.mono (same_new fF)⟩
/-- the keys of a dict -/
def keyD : Key → D
  | .inl i => .int i
  | .inr x => .str x
theorem rep_keys {K : PySem.W.Frag} {F H : Hp} {q : Addr} {od : Obj} {ks : List Key} {vs : List V} (hq : F q = some (.frz od (.dK (ks.zip vs)))) (l : ks.length = vs.length) : ItRep K (Itk q od (ks.zip vs)) (ks.map keyD) F M H where
  go := fun i F' M' H' st ok hi => ⟨ok.frz (st.ext _ _ hq), by rw [List.length_map] at hi; rw [List.length_zip]; omega⟩
  yld := fun i F' M' H' v H2 st ok hi y => by
    rw [List.length_map] at hi
    obtain ⟨e, c, u, hc, rfl⟩ := y
    subst e
    have e1 : (ks.zip vs)[i]? = some (c, u) := hc
    have e2 : ks[i]? = some c := (List.getElem?_zip_eq_some.mp e1).1
    refine ⟨F', keyD c, by rw [List.getElem?_map, e2]; rfl, Stp.refl, ok, ?_⟩
    cases c with
    | inl j => exact is_int.2 rfl
    | inr j => exact is_str.2 rfl
  stop := fun F' M' H' st ok => ⟨ok.frz (st.ext _ _ hq), by rw [List.length_map, List.length_zip]; omega⟩
theorem it_keys {ka : AK} (h : EvD X e Δ M fun d M1 => ∃ ks ds, d = .dct ks ds ∧ ka (ks.map keyD) M1) : ItD X tg e Δ M ka := fun F H σ R hS ok post =>
  semI_of (pi_keys pe_sem) (h F H σ _ hS ok fun d M1 F1 H1 v ⟨ks, ds, ed, hk⟩ st ok1 i => by
    subst ed
    obtain ⟨q, vs, od, e, hq, hl, il⟩ := is_dct.1 i
    subst e
    exact ⟨q, od, rfl, .inl ⟨_, ok1.frz hq, post _ M1 F1 H1 _ hk st ok1 (rep_keys hq (by rw [hl, il.length]))⟩⟩)
end
end DL
end
section
set_option Elab.async false
set_option linter.all false
set_option maxRecDepth 100000
/-! DP: programs of our own over data; draws are free -/
namespace DL
open PySem L2
inductive Pg (α : Type) where
  | ret (a : α) | fail | draw (low : Int) (f : Int → Pg α)
def Pg.bind {α β : Type} : Pg α → (α → Pg β) → Pg β
  | .ret a, f => f a
  | .fail, _ => .fail
  | .draw low g, f => .draw low fun d => (g d).bind f
def ofO {α : Type} : Option α → Pg α
  | some a => .ret a
  | none => .fail
/-- with n draws to go: it ends, and k of the end -/
def wpB {α : Type} (b : Bool) : Nat → Pg α → (α → Nat → Prop) → Prop
  | n, .ret a, k => k a n
  | _, .fail, _ => False
  | n, .draw low f, k => b = true ∧ 0 < low ∧ low < 2 ^ 200 ∧ ∃ m, n = m + 1 ∧ ∀ d, 0 ≤ d → d < low → wpB b m (f d) k
section
variable {α β : Type} {b : Bool}
theorem wpB.mono : ∀ {p : Pg α} {n : Nat} {k k' : α → Nat → Prop}, wpB b n p k → (∀ a m, k a m → k' a m) → wpB b n p k'
  | .ret a, n, k, k', h, hk => hk a n h
  | .fail, _, _, _, h, _ => h.elim
  | .draw low f, n, k, k', h, hk => by
    obtain ⟨h1, h2, h3, m, e, h4⟩ := h
    exact ⟨h1, h2, h3, m, e, fun d d0 d1 => wpB.mono (h4 d d0 d1) hk⟩
theorem wpB_bind : ∀ {p : Pg α} {f : α → Pg β} {n : Nat} {k : β → Nat → Prop}, wpB b n (p.bind f) k ↔ wpB b n p fun a m => wpB b m (f a) k
  | .ret a, f, n, k => Iff.rfl
  | .fail, f, n, k => Iff.rfl
  | .draw low g, f, n, k => by
    constructor
    · rintro ⟨h1, h2, h3, m, e, h4⟩
      exact ⟨h1, h2, h3, m, e, fun d d0 d1 => wpB_bind.1 (h4 d d0 d1)⟩
    · rintro ⟨h1, h2, h3, m, e, h4⟩
      exact ⟨h1, h2, h3, m, e, fun d d0 d1 => wpB_bind.2 (h4 d d0 d1)⟩
theorem wpB_ofO {o : Option α} {n : Nat} {k : α → Nat → Prop} (h : wpB b n (ofO o) k) : ∃ a, o = some a ∧ k a n := by
  cases o with
  | none => exact h.elim
  | some a => exact ⟨a, rfl, h⟩
end
/-! ### names of classes and of the urn -/
section
variable {ρ : Nat → Addr}
theorem rnL_app (ds es : List D) : rnL ρ (ds ++ es) = rnL ρ ds ++ rnL ρ es := by rw [rnL_map, rnL_map, rnL_map, List.map_append]
theorem rnL_get (ds : List D) (i : Nat) : (rnL ρ ds)[i]? = ds[i]?.map (rn ρ) := by rw [rnL_map, List.getElem?_map]
theorem rn_tup (ds : List D) : rn ρ (.tup ds) = .tup (rnL ρ ds) := by simp only [rn]
theorem rn_lst (ds : List D) : rn ρ (.lst ds) = .lst (rnL ρ ds) := by simp only [rn]
theorem rn_frl (ds : List D) : rn ρ (.frl ds) = .frl (rnL ρ ds) := by simp only [rn]
theorem rn_dct (ks : List Key) (ds : List D) : rn ρ (.dct ks ds) = .dct ks (rnL ρ ds) := by simp only [rn]
theorem rn_ins (C : Addr) (fs : List Str) (ds : List D) : rn ρ (.ins C fs ds) = .ins (ρ C) fs (rnL ρ ds) := by simp only [rn]
theorem rn_cell (a : Addr) : rn ρ (.cell a) = .cell (ρ a) := by simp only [rn]
theorem rn_int (i : Int) : rn ρ (.int i) = .int i := by simp only [rn]
theorem rn_bl (i : Bool) : rn ρ (.bl i) = .bl i := by simp only [rn]
theorem rn_str (i : Str) : rn ρ (.str i) = .str i := by simp only [rn]
theorem rn_non : rn ρ .non = .non := by simp only [rn]
theorem rn_ty (n : String) : rn ρ (.ty n) = .ty n := by simp only [rn]
end
/-- 0: the urn; then the classes -/
def rho (γ : Nat → Addr) (u : Addr × Addr) : Nat → Addr
  | 0 => u.1
  | i + 1 => γ i
/-! ### slots -/
def UrnB (b : Bool) (M : Store) (u : Addr) (n : Nat) : Prop := b = true → Urn M u n
def KeepB (b : Bool) (u : Addr) (M M' : Store) : Prop := ∀ q m, (b = true → q ≠ u) → M q = some m → M' q = some m
theorem KeepB.refl {b : Bool} {u : Addr} {M : Store} : KeepB b u M M := fun _ _ _ h => h
theorem KeepB.trans {b : Bool} {u : Addr} {M M1 M2 : Store} (a : KeepB b u M M1) (c : KeepB b u M1 M2) : KeepB b u M M2 := fun q m n h => c q m n (a q m n h)
structure Aft (b : Bool) (u : Addr × Addr) (M M' : Store) (n : Nat) : Prop where
  keep : KeepB b u.1 M M'
  urn : UrnB b M' u.1 n
theorem Vw.keep {ρ : Nat → Addr} {b : Bool} {M M' : Store} {d dr : D} (h : Vw ρ b M d dr) (k : KeepB b (ρ 0) M M') : Vw ρ b M' d dr := by
  rcases h with h | ⟨q, ds, h1, h2, h3, h4⟩
  · exact .inl h
  · exact .inr ⟨q, ds, h1, h2, k q _ h4 h3, h4⟩
structure SI (γ : Nat → Addr) (b : Bool) (u : Addr × Addr) (M0 : Store) (Δ : List Sl) (Δr : DS) (M : Store) (n : Nat) : Prop where
  rel : Rel (rho γ u) u.2 b M0 Δ Δr M
  urn : UrnB b M u.1 n
  k0 : KeepB b u.1 M0 M
section
variable {γ : Nat → Addr} {b : Bool} {u : Addr × Addr} {M0 M M' M2 : Store} {Δ : List Sl} {Δr : DS} {n n' : Nat}
theorem Aft.refl (h : UrnB b M u.1 n) : Aft b u M M n := ⟨KeepB.refl, h⟩
theorem Aft.trans {n1 n2 : Nat} (a : Aft b u M M' n1) (c : Aft b u M' M2 n2) : Aft b u M M2 n2 := ⟨a.keep.trans c.keep, c.urn⟩
theorem Rel.keep {ρ : Nat → Addr} (r : Rel ρ an b M0 Δ Δr M) (k : KeepB b (ρ 0) M M') : Rel ρ an b M0 Δ Δr M' := ⟨r.len, r.v, fun i m h => by
  obtain ⟨q, h1, h2, h3, h4, h5⟩ := r.o i m h
  exact ⟨q, h1, k q _ h4 h2, h3, h4, h5⟩, r.inj, r.w⟩
theorem SI.aft (s : SI γ b u M0 Δ Δr M n) (a : Aft b u M M' n') : SI γ b u M0 Δ Δr M' n' := ⟨s.rel.keep a.keep, a.urn, s.k0.trans a.keep⟩
theorem SI.here (s : SI γ b u M0 Δ Δr M n) : Aft b u M M n := Aft.refl s.urn
end
/-! ### judgements -/
abbrev SE := List Sl → Pg D
abbrev SB := List Sl → Pg Bool
abbrev SA := List Sl → Pg (List D)
structure IE (γ : Nat → Addr) (X : Cx) (e : Expr) (s : SE) : Prop where
  go : ∀ b u M0 Δ Δr M n (k : DK), SI γ b u M0 Δ Δr M n → wpB b n (s Δ) (fun d n' => ∀ M', Aft b u M M' n' → k (rn (rho γ u) d) M') → EvD X e Δr M k
structure IV (γ : Nat → Addr) (X : Cx) (e : Expr) (s : SE) : Prop where
  go : ∀ b u M0 Δ Δr M n (k : DK), SI γ b u M0 Δ Δr M n → wpB b n (s Δ) (fun d n' => ∀ M' dr, Aft b u M M' n' → Vw (rho γ u) b M' d dr → k dr M') → EvD X e Δr M k
structure IT (γ : Nat → Addr) (X : Cx) (e : Expr) (s : SB) : Prop where
  go : ∀ b u M0 Δ Δr M n (k : BK), SI γ b u M0 Δ Δr M n → wpB b n (s Δ) (fun d n' => ∀ M', Aft b u M M' n' → k d M') → TeD X e Δr M k
structure IA (γ : Nat → Addr) (X : Cx) (es : List Expr) (s : SA) : Prop where
  go : ∀ b u M0 Δ Δr M n (k : AK), SI γ b u M0 Δ Δr M n → wpB b n (s Δ) (fun d n' => ∀ M', Aft b u M M' n' → k (rnL (rho γ u) d) M') → EvA X es Δr M k
/-- a fresh list -/
structure IL (γ : Nat → Addr) (X : Cx) (e : Expr) (s : SA) : Prop where
  go : ∀ b u M0 Δ Δr M n (k : AK), SI γ b u M0 Δ Δr M n → wpB b n (s Δ) (fun d n' => ∀ M', Aft b u M M' n' → k (rnL (rho γ u) d) M') → EvL X e Δr M k
structure II (γ : Nat → Addr) (X : Cx) (tg e : Expr) (s : SA) : Prop where
  go : ∀ b u M0 Δ Δr M n (k : AK), SI γ b u M0 Δ Δr M n → wpB b n (s Δ) (fun d n' => ∀ M', Aft b u M M' n' → k (rnL (rho γ u) d) M') → ItD X tg e Δr M k
section
variable {γ : Nat → Addr} {X : Cx} {a e e2 : Expr} {es : List Expr} {pos p : Pos} {x : Str}
theorem IE.iv {s : SE} (h : IE γ X e s) : IV γ X e s := .mk fun b u M0 Δ Δr M n k S w => h.go b u M0 Δ Δr M n k S (w.mono fun d m q M' A => q M' _ A (.inl rfl))
/-! ### leaves -/
def cVar (i : Nat) : SE := fun Δ => match Δ[i]? with
  | some (.v d) => .ret d
  | _ => .fail
def cVw (i : Nat) : SE := fun Δ => match Δ[i]? with
  | some (.v d) => .ret d
  | some (.o (.lst ds)) => .ret (.lst ds)
  | some (.w d) => .ret d
  | _ => .fail
def cC (d : D) : SE := fun _ => .ret d
theorem i_var {i : Nat} (hN : X.N[i]? = some x) (hv : Vis X.env.scope x) (hd : (x == ("__debug__" : Str)) = false) (hcd : (x == ("__classdict__" : Str)) = false) : IE γ X (.Name x pos) (cVar i) := .mk fun b u M0 Δ Δr M n k S w => by
  unfold cVar at w
  split at w
  · rename_i d hd'
    exact ev_var hN hv hd hcd (S.rel.v i d hd') (w M S.here)
  · exact w.elim
theorem iv_var {i : Nat} (hN : X.N[i]? = some x) (hv : Vis X.env.scope x) (hd : (x == ("__debug__" : Str)) = false) (hcd : (x == ("__classdict__" : Str)) = false) : IV γ X (.Name x pos) (cVw i) := .mk fun b u M0 Δ Δr M n k S w => by
  unfold cVw at w
  split at w
  · rename_i d hd'
    exact ev_var hN hv hd hcd (S.rel.v i d hd') (w M _ S.here (.inl rfl))
  · rename_i ds hd'
    obtain ⟨q, h1, h2, h3, h4, _⟩ := S.rel.o i _ hd'
    exact ev_var hN hv hd hcd h1 (w M _ S.here (.inr ⟨q, ds, rfl, rfl, h2, h4⟩))
  · rename_i d hd'
    obtain ⟨dr, h1, h2⟩ := S.rel.w i d hd'
    exact ev_var hN hv hd hcd h1 (w M _ S.here (h2.keep S.k0))
  · exact w.elim
theorem i_int {i : Int} {j : Nat} : IE γ X (.Constant (.int i) j pos) (cC (.int i)) := .mk fun b u M0 Δ Δr M n k S w => by
  have w := w M S.here
  rw [rn_int] at w
  exact ev_int w
theorem i_bl {i : Bool} {j : Nat} : IE γ X (.Constant (.bool i) j pos) (cC (.bl i)) := .mk fun b u M0 Δ Δr M n k S w => by
  have w := w M S.here
  rw [rn_bl] at w
  exact ev_bl w
theorem i_str {i : Str} {j : Nat} : IE γ X (.Constant (.str i) j pos) (cC (.str i)) := .mk fun b u M0 Δ Δr M n k S w => by
  have w := w M S.here
  rw [rn_str] at w
  exact ev_str w
theorem i_non {j : Nat} : IE γ X (.Constant .none j pos) (cC .non) := .mk fun b u M0 Δ Δr M n k S w => by
  have w := w M S.here
  rw [rn_non] at w
  exact ev_non w
theorem i_ty {T : String} (hg : Gl X x) (hm : X.mg x = none) (hv : bootBuiltins x = some (.type T)) (hn : x ≠ "__name__") (hdb : (x == ("__debug__" : Str)) = false) : IE γ X (.Name x pos) (cC (.ty T)) := .mk fun b u M0 Δ Δr M n k S w => by
  have w := w M S.here
  rw [rn_ty] at w
  exact ev_tyn hg hm hv hn hdb w
/-! ### one, two operands -/
def c1 (g : D → Option D) (a : SE) : SE := fun Δ => (a Δ).bind fun x => ofO (g x)
def c2 (g : D → D → Option D) (a c : SE) : SE := fun Δ => (a Δ).bind fun x => (c Δ).bind fun y => ofO (g x y)
/-- g is what PP asks -/
def Ok2 (PP : D → D → Store → DK → Prop) (g : D → D → Option D) : Prop := ∀ (ρ : Nat → Addr) x y d M (k : DK), g x y = some d → k (rn ρ d) M → PP (rn ρ x) (rn ρ y) M k
def Ok1 (PP : D → Store → DK → Prop) (g : D → Option D) : Prop := ∀ (ρ : Nat → Addr) x d M (k : DK), g x = some d → k (rn ρ d) M → PP (rn ρ x) M k
/-- the first operand may be a view -/
def OkV1 (PP : D → Store → DK → Prop) (g : D → Option D) : Prop := ∀ (ρ : Nat → Addr) b x xr d M (k : DK), g x = some d → Vw ρ b M x xr → k (rn ρ d) M → PP xr M k
def OkV2 (PP : D → D → Store → DK → Prop) (g : D → D → Option D) : Prop := ∀ (ρ : Nat → Addr) b x xr y d M (k : DK), g x y = some d → Vw ρ b M x xr → k (rn ρ d) M → PP xr (rn ρ y) M k
def OkW2 (PP : D → D → Store → DK → Prop) (g : D → D → Option D) : Prop := ∀ (ρ : Nat → Addr) b x y yr d M (k : DK), g x y = some d → Vw ρ b M y yr → k (rn ρ d) M → PP (rn ρ x) yr M k
theorem OkV1.ok {PP : D → Store → DK → Prop} {g : D → Option D} (h : OkV1 PP g) : Ok1 PP g := fun ρ x d M k e q => h ρ false x _ d M k e (.inl rfl) q
variable {c : Expr}
theorem i_two {e : Expr} {PP : D → D → Store → DK → Prop} {g : D → D → Option D} {s t : SE} (hev : ∀ Δr M k, (EvD X a Δr M fun d1 M1 => EvD X c Δr M1 fun d2 M2 => PP d1 d2 M2 k) → EvD X e Δr M k) (ok : Ok2 PP g) (ha : IE γ X a s) (hc : IE γ X c t) : IE γ X e (c2 g s t) := .mk fun b u M0 Δ Δr M n k S w => by
  refine hev Δr M k (ha.go b u M0 Δ Δr M n _ S ((wpB_bind.1 w).mono fun x n1 w1 M1 A1 => hc.go b u M0 Δ Δr M1 n1 _ (S.aft A1) ((wpB_bind.1 w1).mono fun y n2 w2 M2 A2 => ?_)))
  obtain ⟨d, h1, h2⟩ := wpB_ofO w2
  exact ok _ x y d M2 k h1 (h2 M2 (A1.trans A2))
theorem i_twoV {e : Expr} {PP : D → D → Store → DK → Prop} {g : D → D → Option D} {s t : SE} (hev : ∀ Δr M k, (EvD X a Δr M fun d1 M1 => EvD X c Δr M1 fun d2 M2 => PP d1 d2 M2 k) → EvD X e Δr M k) (ok : OkV2 PP g) (ha : IV γ X a s) (hc : IE γ X c t) : IE γ X e (c2 g s t) := .mk fun b u M0 Δ Δr M n k S w => by
  refine hev Δr M k (ha.go b u M0 Δ Δr M n _ S ((wpB_bind.1 w).mono fun x n1 w1 M1 xr A1 V1 => hc.go b u M0 Δ Δr M1 n1 _ (S.aft A1) ((wpB_bind.1 w1).mono fun y n2 w2 M2 A2 => ?_)))
  obtain ⟨d, h1, h2⟩ := wpB_ofO w2
  exact ok _ b x xr y d M2 k h1 (V1.keep A2.keep) (h2 M2 (A1.trans A2))
theorem i_one {e : Expr} {PP : D → Store → DK → Prop} {g : D → Option D} {s : SE} (hev : ∀ Δr M k, (EvD X a Δr M fun d1 M1 => PP d1 M1 k) → EvD X e Δr M k) (ok : Ok1 PP g) (ha : IE γ X a s) : IE γ X e (c1 g s) := .mk fun b u M0 Δ Δr M n k S w => by
  refine hev Δr M k (ha.go b u M0 Δ Δr M n _ S ((wpB_bind.1 w).mono fun x n1 w1 M1 A1 => ?_))
  obtain ⟨d, h1, h2⟩ := wpB_ofO w1
  exact ok _ x d M1 k h1 (h2 M1 A1)
theorem i_oneV {e : Expr} {PP : D → Store → DK → Prop} {g : D → Option D} {s : SE} (hev : ∀ Δr M k, (EvD X a Δr M fun d1 M1 => PP d1 M1 k) → EvD X e Δr M k) (ok : OkV1 PP g) (ha : IV γ X a s) : IE γ X e (c1 g s) := .mk fun b u M0 Δ Δr M n k S w => by
  refine hev Δr M k (ha.go b u M0 Δ Δr M n _ S ((wpB_bind.1 w).mono fun x n1 w1 M1 xr A1 V1 => ?_))
  obtain ⟨d, h1, h2⟩ := wpB_ofO w1
  exact ok _ b x xr d M1 k h1 V1 (h2 M1 A1)
end
end DL
end
section
set_option Elab.async false
set_option linter.all false
set_option maxRecDepth 100000
namespace DL
open PySem L2
/-! ### what the operators make -/
@[reducible] def lim : Nat := 16777216
theorem lim_eq : sizeLine = lim := PySem.sizeLine_eq
/-- a number that is not too great: said so that nothing is unrolled -/
def nsm (k : Nat) (j : Int) : Bool := Nat.ble j.natAbs k
theorem nsm_is {k : Nat} {j : Int} (h : nsm k j = true) : -(k : Int) ≤ j ∧ j ≤ k := by
  have h := Nat.le_of_ble_eq_true h
  omega
def addO : D → D → Option D
  | .int i, .int j => some (.int (i + j))
  | .str x, .str y => if x.length + y.length ≤ lim then some (.str (x ++ y)) else none
  | .lst x, .lst y => if x.length + y.length ≤ lim then some (.lst (x ++ y)) else none
  | .tup x, .tup y => if x.length + y.length ≤ lim then some (.tup (x ++ y)) else none
  | _, _ => none
theorem add_ok : Ok2 AddP addO := fun ρ x y d M k e h => by
  unfold addO at e
  split at e
  · cases e; rw [rn_int] at *; exact h
  · split at e
    · rename_i l; cases e; rw [rn_str] at *; exact ⟨by rw [lim_eq]; exact l, h⟩
    · cases e
  · split at e
    · rename_i l; cases e; rw [rn_lst, rnL_app] at *; exact ⟨by rw [lim_eq, rnL_len, rnL_len]; exact l, h⟩
    · cases e
  · split at e
    · rename_i l; cases e; rw [rn_tup, rnL_app] at *; exact ⟨by rw [lim_eq, rnL_len, rnL_len]; exact l, h⟩
    · cases e
  · cases e
def subO : D → D → Option D
  | .int i, .int j => some (.int (i - j))
  | _, _ => none
theorem sub_ok : Ok2 (NumP fun i j => .int (i - j)) subO := fun ρ x y d M k e h => by
  unfold subO at e
  split at e
  · cases e; rw [rn_int] at *; exact h
  · cases e
theorem rnL_rep {ρ : Nat → Addr} (xs : List D) : ∀ n : Nat, rnL ρ (List.replicate n xs).flatten = (List.replicate n (rnL ρ xs)).flatten
  | 0 => by simp [rnL_map]
  | n + 1 => by rw [List.replicate_succ, List.replicate_succ, List.flatten_cons, List.flatten_cons, rnL_app, rnL_rep xs n]
def mulO : D → D → Option D
  | .int i, .int j => if nsm 18446744073709551615 j = true ∨ i.natAbs.log2 + j.natAbs.log2 < 1000000 then some (.int (i * j)) else none
  | .lst x, .int j => if nsm 9223372036854775807 j = true ∧ x.length * j.toNat ≤ lim then some (.lst (List.replicate j.toNat x).flatten) else none
  | _, _ => none
theorem mul_ok : Ok2 MulP mulO := fun ρ x y d M k e h => by
  unfold mulO at e
  split at e
  · split at e
    · rename_i l; cases e; rw [rn_int] at *; exact ⟨l.elim (fun l => CMul.ok (.inr (by have := nsm_is l; constructor <;> omega))) CMulW.ok, h⟩
    · cases e
  · split at e
    · rename_i l; cases e
      rw [rn_lst, rnL_rep] at h
      rw [rn_lst, rn_int]
      have := nsm_is l.1
      exact ⟨⟨by omega, by omega, by rw [lim_eq, rnL_len]; exact l.2⟩, h⟩
    · cases e
  · cases e
def modO : D → D → Option D
  | .int i, .int j => if 0 < j then some (.int (i % j)) else none
  | _, _ => none
theorem mod_ok : Ok2 (IntP (fun _ j => 0 < j) fun i j => .int (i % j)) modO := fun ρ x y d M k e h => by
  unfold modO at e
  split at e
  · split at e
    · rename_i l; cases e; rw [rn_int] at *; exact ⟨l, h⟩
    · cases e
  · cases e
def powO : D → D → Option D
  | .int i, .int j => if 0 ≤ j ∧ j ≤ 1000000 ∧ i.natAbs < 2 ^ 64 then some (.int (i ^ j.toNat)) else none
  | _, _ => none
theorem pow_ok : Ok2 (IntP CPow fun i j => .int (i ^ j.toNat)) powO := fun ρ x y d M k e h => by
  unfold powO at e
  split at e
  · split at e
    · rename_i l; cases e; rw [rn_int] at *; exact ⟨l, h⟩
    · cases e
  · cases e
def negO : D → Option D
  | .int i => some (.int (-i))
  | _ => none
theorem neg_ok : Ok1 NegP negO := fun ρ x d M k e h => by
  unfold negO at e
  split at e
  · cases e; rw [rn_int] at *; exact h
  · cases e
/-! comparisons -/
def coO (op : CmpOp) : D → D → Option D
  | .int i, .int j => match op with
    | .Lt => some (.bl (decide (i < j))) | .LtE => some (.bl (decide (i ≤ j))) | .Gt => some (.bl (decide (j < i))) | .GtE => some (.bl (decide (j ≤ i)))
    | _ => none
  | .str i, .str j => match op with
    | .Lt => some (.bl (decide (i.cps.toList < j.cps.toList))) | .LtE => some (.bl (!decide (j.cps.toList < i.cps.toList))) | .Gt => some (.bl (decide (j.cps.toList < i.cps.toList))) | .GtE => some (.bl (!decide (i.cps.toList < j.cps.toList)))
    | _ => none
  | _, _ => none
theorem co_ok {op : CmpOp} : Ok2 (CoP op) (coO op) := fun ρ x y d M k e h => by
  unfold coO at e
  split at e
  · rw [rn_int, rn_int]
    split at e <;> first | (cases e; rw [rn_bl] at h; exact h) | cases e
  · rw [rn_str, rn_str]
    split at e <;> first | (cases e; rw [rn_bl] at h; exact h) | cases e
  · cases e
/-! == -/
mutual
theorem toPy_rn {ρ : Nat → Addr} : ∀ {d : D} {p : PyData}, toPy d = some p → toPy (rn ρ d) = some p
  | .non, p, h => by rw [rn_non]; exact h
  | .bl _, p, h => by rw [rn_bl]; exact h
  | .int _, p, h => by rw [rn_int]; exact h
  | .str _, p, h => by rw [rn_str]; exact h
  | .ty _, p, h => by rw [rn_ty]; exact h
  | .tup ds, p, h => by
    rw [rn_tup]
    unfold toPy at h ⊢
    obtain ⟨ps, h1, h2⟩ := Option.map_eq_some_iff.mp h
    rw [toPyL_rn h1]
    exact congrArg some h2
  | .lst ds, p, h => by
    rw [rn_lst]
    unfold toPy at h ⊢
    obtain ⟨ps, h1, h2⟩ := Option.map_eq_some_iff.mp h
    rw [toPyL_rn h1]
    exact congrArg some h2
  | .frl ds, p, h => by
    rw [rn_frl]
    unfold toPy at h ⊢
    obtain ⟨ps, h1, h2⟩ := Option.map_eq_some_iff.mp h
    rw [toPyL_rn h1]
    exact congrArg some h2
  | .dct _ _, p, h => by unfold toPy at h; cases h
  | .ins _ _ _, p, h => by unfold toPy at h; cases h
  | .cell _, p, h => by unfold toPy at h; cases h
theorem toPyL_rn {ρ : Nat → Addr} : ∀ {ds : List D} {ps : List PyData}, toPyL ds = some ps → toPyL (rnL ρ ds) = some ps
  | [], _, h => by unfold rnL; exact h
  | d :: ds, _, h => by
    unfold rnL
    unfold toPyL at h ⊢
    obtain ⟨p, h1, h2⟩ := Option.bind_eq_some_iff.mp h
    obtain ⟨qs, h3, h4⟩ := Option.map_eq_some_iff.mp h2
    rw [toPy_rn h1, toPyL_rn h3]
    exact congrArg some h4
end
theorem sc_rn {ρ : Nat → Addr} {d : D} {v : V} (h : sc d = some v) : rn ρ d = d := by
  unfold sc at h
  split at h
  · exact rn_non
  · exact rn_bl _
  · exact rn_int _
  · exact rn_str _
  · cases h
def eqQ (neg : Bool) (x y : D) : Option D := match toPy x, toPy y with
  | some p, some q => if SeqAt.shaped p = true ∧ SeqAt.shaped q = true then some (.bl (if neg then !PyData.eqv p q else PyData.eqv p q)) else none
  | _, _ => none
def eqO (neg : Bool) (x y : D) : Option D := match x, y with
  | .int i, .int j => some (.bl (if neg then !decide (i = j) else decide (i = j)))
  | .str i, .str j => some (.bl (if neg then !decide (i = j) else decide (i = j)))
  | .bl i, .bl j => some (.bl (if neg then !decide (i = j) else decide (i = j)))
  | .non, .non => some (.bl (!neg))
  | .non, .int _ => some (.bl neg) | .int _, .non => some (.bl neg)
  | .non, .bl _ => some (.bl neg) | .bl _, .non => some (.bl neg)
  | .non, .str _ => some (.bl neg) | .str _, .non => some (.bl neg)
  | .int _, .str _ => some (.bl neg) | .str _, .int _ => some (.bl neg)
  | .bl _, .str _ => some (.bl neg) | .str _, .bl _ => some (.bl neg)
  | x, y => eqQ neg x y
theorem eqS_of {neg : Bool} {x y : V} {d1 d2 : D} {M : Store} {k : DK} (h1 : sc d1 = some x) (h2 : sc d2 = some y) (s : scal x y = true) {c : Bool} (hc : decide (x = y) = c) (h : k (.bl (if neg then !c else c)) M) : EqA neg d1 d2 M k := .inl ⟨x, y, h1, h2, s, by rw [hc]; exact h⟩
theorem eq_ok {neg : Bool} : Ok2 (EqA neg) (eqO neg) := fun ρ x y d M k e h => by
  unfold eqO at e
  split at e
  · cases e; rw [rn_int, rn_int]; rw [rn_bl] at h
    refine eqS_of rfl rfl rfl (c := decide _) (decide_eq_decide.mpr ⟨fun z => by cases z; rfl, fun z => by rw [z]⟩) h
  · cases e; rw [rn_str, rn_str]; rw [rn_bl] at h
    refine eqS_of rfl rfl rfl (c := decide _) (decide_eq_decide.mpr ⟨fun z => by cases z; rfl, fun z => by rw [z]⟩) h
  · cases e; rw [rn_bl, rn_bl]; rw [rn_bl] at h
    refine eqS_of rfl rfl rfl (c := decide _) (decide_eq_decide.mpr ⟨fun z => by cases z; rfl, fun z => by rw [z]⟩) h
  · cases e; rw [rn_non]; rw [rn_bl] at h
    refine eqS_of rfl rfl rfl (c := true) rfl (by cases neg <;> exact h)
  all_goals first
    | (cases e; simp only [rn_non, rn_int, rn_bl, rn_str] at h ⊢
       exact eqS_of rfl rfl rfl (c := false) (decide_eq_false fun z => by cases z) (by cases neg <;> exact h))
    | (unfold eqQ at e
       split at e
       · rename_i p q hp hq
         split at e
         · rename_i hs
           cases e
           rw [rn_bl] at h
           exact .inr ⟨p, q, toPy_rn hp, toPy_rn hq, hs.1, hs.2, h⟩
         · cases e
       · cases e)
/-! in -/
def seqV : D → Option (List D)
  | .tup ds => some ds | .lst ds => some ds | .frl ds => some ds
  | _ => none
theorem vw_seq {ρ : Nat → Addr} {b : Bool} {M : Store} {d dr : D} {ds : List D} (h : seqV d = some ds) (v : Vw ρ b M d dr) : seqD M dr = some (rnL ρ ds) := by
  rcases v with rfl | ⟨q, es, rfl, rfl, h2, _⟩
  · unfold seqV at h
    split at h
    · cases h; rw [rn_tup]; rfl
    · cases h; rw [rn_lst]; rfl
    · cases h; rw [rn_frl]; rfl
    · cases h
  · cases h; exact seq_cell h2
def inL (x : D) : List D → Option Bool
  | [] => some false
  | y :: r => (sc y).bind fun v => (inL x r).bind fun c => (sc x).map fun u => eqV v u || c
theorem inL_flat {ρ : Nat → Addr} {x : D} {v : V} (hx : sc x = some v) : ∀ {ds : List D} {c : Bool}, inL x ds = some c → ∃ vs, flatL (rnL ρ ds) = some vs ∧ inV v vs = c
  | [], c, h => by
    cases h
    unfold rnL
    exact ⟨[], rfl, rfl⟩
  | y :: r, c, h => by
    unfold inL at h
    obtain ⟨w, h1, h2⟩ := Option.bind_eq_some_iff.mp h
    obtain ⟨c2, h3, h4⟩ := Option.bind_eq_some_iff.mp h2
    rw [hx] at h4
    cases h4
    obtain ⟨vs, h5, h6⟩ := inL_flat hx h3
    refine ⟨w :: vs, ?_, ?_⟩
    · unfold rnL flatL
      rw [sc_rn h1, h1, h5]
      rfl
    · unfold inV at h6 ⊢
      rw [List.any_cons, h6]
def inO (neg : Bool) (x y : D) : Option D := match seqV y with
  | some ds => (inL x ds).bind fun c => (sc x).map fun _ => .bl (if neg then !c else c)
  | none => match x, y with
    | .str z, .str w => if z.cps.size = 1 then some (.bl (if neg then !decide (z.cps.toList.headD 0 ∈ w.cps.toList) else decide (z.cps.toList.headD 0 ∈ w.cps.toList))) else none
    | _, _ => none
theorem in_ok {neg : Bool} : OkW2 (InA neg) (inO neg) := fun ρ b x y yr d M k e v h => by
  unfold inO at e
  split at e
  · rename_i ds hs
    obtain ⟨c, h1, h2⟩ := Option.bind_eq_some_iff.mp e
    obtain ⟨w, h3, h4⟩ := Option.map_eq_some_iff.mp h2
    subst h4
    rw [rn_bl] at h
    obtain ⟨vs, h5, h6⟩ := inL_flat (ρ := ρ) h3 h1
    rw [sc_rn h3]
    exact .inl ⟨w, _, vs, h3, vw_seq hs v, h5, by rw [h6]; exact h⟩
  · split at e
    · rename_i z w hn
      split at e
      · rename_i hz
        cases e
        rw [rn_bl] at h
        rcases v with rfl | ⟨q, es, _, e2, _⟩
        · rw [rn_str, rn_str]
          have : ∃ c, z = ⟨#[c]⟩ := by
            obtain ⟨⟨l⟩⟩ := z
            match l, hz with
            | [c], _ => exact ⟨c, rfl⟩
          obtain ⟨c, rfl⟩ := this
          exact .inr ⟨c, w, rfl, rfl, h⟩
        · cases e2
      · cases e
    · cases e
def nonO (neg : Bool) (x : D) : Option D := some (.bl (if neg then !isNon x else isNon x))
theorem isNon_rn {ρ : Nat → Addr} (x : D) : isNon (rn ρ x) = isNon x := by
  cases x with
  | non => rw [rn_non]
  | bl _ => rw [rn_bl]
  | int _ => rw [rn_int]
  | str _ => rw [rn_str]
  | ty _ => rw [rn_ty]
  | tup _ => rw [rn_tup]; rfl
  | lst _ => rw [rn_lst]; rfl
  | frl _ => rw [rn_frl]; rfl
  | dct _ _ => rw [rn_dct]; rfl
  | ins _ _ _ => rw [rn_ins]; rfl
  | cell _ => rw [rn_cell]; rfl
/-! items and slices -/
def ixO : D → D → Option D
  | .str z, .int i => if z.length ≤ lim then (atI z.cps.toList i).map fun c => .str ⟨#[c]⟩ else none
  | d, .int i => (seqV d).bind fun ds => atI ds i
  | _, _ => none
theorem atI_rn {ρ : Nat → Addr} {ds : List D} {i : Int} {r : D} (h : atI ds i = some r) : atI (rnL ρ ds) i = some (rn ρ r) := by
  unfold atI at h ⊢
  obtain ⟨j, h1, h2⟩ := Option.bind_eq_some_iff.mp h
  rw [rnL_len, h1]
  show (rnL ρ ds)[j]? = _
  rw [rnL_get, h2]
  rfl
theorem strOf_seq {d dr : D} {ρ : Nat → Addr} {b : Bool} {M : Store} {ds : List D} (h : seqV d = some ds) (v : Vw ρ b M d dr) : strOf dr = none := by
  rcases v with rfl | ⟨q, es, rfl, rfl, h2, _⟩
  · unfold seqV at h
    split at h
    · rw [rn_tup]; rfl
    · rw [rn_lst]; rfl
    · rw [rn_frl]; rfl
    · cases h
  · rfl
theorem ix_ok : OkV2 (fun d1 d2 M2 k => ∃ i r, d2 = .int i ∧ atD M2 d1 i = some r ∧ k r M2) ixO := fun ρ b x xr y d M k e v h => by
  unfold ixO at e
  split at e
  · split at e
    · rename_i l
      obtain ⟨c, h1, h2⟩ := Option.map_eq_some_iff.mp e
      subst h2
      rw [rn_str] at h
      rcases v with rfl | ⟨q, es, _, e2, _⟩
      · rw [rn_str, rn_int]
        refine ⟨_, _, rfl, ?_, h⟩
        unfold atD strOf
        dsimp only
        rw [if_pos (by rw [lim_eq]; exact l), h1]
        rfl
      · cases e2
    · cases e
  · rename_i i hn
    obtain ⟨ds, h1, h2⟩ := Option.bind_eq_some_iff.mp e
    rw [rn_int]
    refine ⟨i, _, rfl, ?_, h⟩
    unfold atD
    rw [strOf_seq h1 v]
    dsimp only
    rw [vw_seq h1 v]
    exact atI_rn h2
  · cases e
def slO (d : D) (lo hi : Option Int) : Option D := match d with
  | .str z => if z.length ≤ lim then some (.str (cutS z lo hi)) else none
  | .tup ds => some (.tup (cutD ds lo hi))
  | .lst ds => some (.lst (cutD ds lo hi))
  | .frl ds => some (.lst (cutD ds lo hi))
  | _ => none
theorem cut_rn {ρ : Nat → Addr} (ds : List D) (lo hi : Option Int) : rnL ρ (cutD ds lo hi) = cutD (rnL ρ ds) lo hi := by
  unfold cutD
  rw [rnL_map, rnL_map, List.map_take, List.map_drop, List.length_map]
theorem sl_ok {ρ : Nat → Addr} {b : Bool} {x xr d : D} {lo hi : Option Int} {M : Store} {k : DK} (e : slO x lo hi = some d) (v : Vw ρ b M x xr) (h : k (rn ρ d) M) : SlP xr lo hi M k := by
  rcases v with rfl | ⟨q, es, rfl, rfl, h2, _⟩
  · unfold slO at e
    split at e
    · split at e
      · rename_i l; cases e; rw [rn_str] at *; exact ⟨by rw [lim_eq]; exact l, h⟩
      · cases e
    · cases e; rw [rn_tup] at *; rw [cut_rn] at h; exact h
    · cases e; rw [rn_lst] at *; rw [cut_rn] at h; exact ⟨_, rfl, h⟩
    · cases e; rw [rn_lst, cut_rn] at h; rw [rn_frl]; exact ⟨_, rfl, h⟩
    · cases e
  · cases e
    rw [rn_lst, cut_rn] at h
    exact ⟨_, ls_cell h2, h⟩
def intOf : D → Option Int
  | .int i => some i
  | _ => none
theorem intOf_is {d : D} {i : Int} (h : intOf d = some i) : d = .int i := by
  unfold intOf at h
  split at h
  · cases h; rfl
  · cases h
def sl10 (x y : D) : Option D := (intOf y).bind fun i => slO x (some i) none
def sl01 (x y : D) : Option D := (intOf y).bind fun i => slO x none (some i)
/-! len and numbers -/
def lenO' : D → Option D
  | .str z => if z.length ≤ lim then some (.int z.length) else none
  | d => (seqV d).map fun ds => .int ds.length
theorem len_ok : OkV1 (fun d M1 k => ∃ n : Nat, lenD M1 d = some n ∧ k (.int n) M1) lenO' := fun ρ b x xr d M k e v h => by
  unfold lenO' at e
  split at e
  · split at e
    · rename_i l
      cases e
      rw [rn_int] at h
      rcases v with rfl | ⟨q, es, _, e2, _⟩
      · rw [rn_str]
        exact ⟨_, by unfold lenD strOf; dsimp only; rw [if_pos (by rw [lim_eq]; exact l)], h⟩
      · cases e2
    · cases e
  · obtain ⟨ds, h1, h2⟩ := Option.map_eq_some_iff.mp e
    subst h2
    rw [rn_int] at h
    refine ⟨ds.length, ?_, h⟩
    unfold lenD
    rw [strOf_seq h1 v]
    dsimp only
    rw [vw_seq h1 v]
    show some (rnL ρ ds).length = _
    rw [rnL_len]
def maxO : D → D → Option D
  | .int i, .int j => some (.int (if j > i then j else i))
  | _, _ => none
theorem max_ok : Ok2 (NumP fun i j => .int (if j > i then j else i)) maxO := fun ρ x y d M k e h => by
  unfold maxO at e
  split at e
  · cases e; rw [rn_int] at *; exact h
  · cases e
/-! rows of ints, of truths, of texts -/
def unI : List D → Option (List Int)
  | [] => some []
  | .int i :: r => (unI r).map (i :: ·)
  | _ => none
def unB : List D → Option (List Bool)
  | [] => some []
  | .bl i :: r => (unB r).map (i :: ·)
  | _ => none
theorem unI_eq : ∀ {ds : List D} {ns : List Int}, unI ds = some ns → ds = ns.map D.int
  | [], _, h => by cases h; rfl
  | d :: r, ns, h => by
    cases d with
    | int i =>
      obtain ⟨ms, h1, h2⟩ := Option.map_eq_some_iff.mp (show (unI r).map (i :: ·) = some ns from h)
      subst h2
      rw [unI_eq h1]; rfl
    | _ => cases h
theorem unB_eq : ∀ {ds : List D} {ns : List Bool}, unB ds = some ns → ds = ns.map D.bl
  | [], _, h => by cases h; rfl
  | d :: r, ns, h => by
    cases d with
    | bl i =>
      obtain ⟨ms, h1, h2⟩ := Option.map_eq_some_iff.mp (show (unB r).map (i :: ·) = some ns from h)
      subst h2
      rw [unB_eq h1]; rfl
    | _ => cases h
theorem unS_eq {ds : List D} {ns : List Str} (h : unS ds = some ns) : ds = ns.map D.str := Option.some.inj (strL h)
theorem rn_ints {ρ : Nat → Addr} (ns : List Int) : rnL ρ (ns.map D.int) = ns.map D.int := by
  rw [rnL_map, List.map_map]; exact List.map_congr_left fun i _ => rn_int i
theorem rn_bls {ρ : Nat → Addr} (ns : List Bool) : rnL ρ (ns.map D.bl) = ns.map D.bl := by
  rw [rnL_map, List.map_map]; exact List.map_congr_left fun i _ => rn_bl i
theorem rn_strs {ρ : Nat → Addr} (ns : List Str) : rnL ρ (ns.map D.str) = ns.map D.str := by
  rw [rnL_map, List.map_map]; exact List.map_congr_left fun i _ => rn_str i
def lsV : D → Option (List D)
  | .lst ds => some ds | .frl ds => some ds
  | _ => none
theorem vw_ls {ρ : Nat → Addr} {b : Bool} {M : Store} {d dr : D} {ds : List D} (h : lsV d = some ds) (v : Vw ρ b M d dr) : lsD M dr = some (rnL ρ ds) := by
  rcases v with rfl | ⟨q, es, rfl, rfl, h2, _⟩
  · unfold lsV at h
    split at h
    · cases h; rw [rn_lst]; rfl
    · cases h; rw [rn_frl]; rfl
    · cases h
  · cases h; exact ls_cell h2
def sumO (d : D) : Option D := (lsV d).bind fun ds => (unI ds).map fun ns => .int ns.sum
theorem sum_ok : OkV1 (fun d M1 k => ∃ ns : List Int, lsD M1 d = some (ns.map D.int) ∧ k (.int ns.sum) M1) sumO := fun ρ b x xr d M k e v h => by
  obtain ⟨ds, h1, h2⟩ := Option.bind_eq_some_iff.mp e
  obtain ⟨ns, h3, h4⟩ := Option.map_eq_some_iff.mp h2
  subst h4
  rw [rn_int] at h
  exact ⟨ns, by rw [vw_ls h1 v, unI_eq h3, rn_ints], h⟩
def allO (d : D) : Option D := (lsV d).bind fun ds => (unB ds).map fun ns => .bl (ns.all id)
theorem all_ok : OkV1 (fun d M1 k => ∃ ns : List Bool, lsD M1 d = some (ns.map D.bl) ∧ k (.bl (ns.all id)) M1) allO := fun ρ b x xr d M k e v h => by
  obtain ⟨ds, h1, h2⟩ := Option.bind_eq_some_iff.mp e
  obtain ⟨ns, h3, h4⟩ := Option.map_eq_some_iff.mp h2
  subst h4
  rw [rn_bl] at h
  exact ⟨ns, by rw [vw_ls h1 v, unB_eq h3, rn_bls], h⟩
def anyO (d : D) : Option D := (lsV d).bind fun ds => (unB ds).map fun ns => .bl (ns.any id)
theorem any_ok : OkV1 (fun d M1 k => ∃ ns : List Bool, lsD M1 d = some (ns.map D.bl) ∧ k (.bl (ns.any id)) M1) anyO := fun ρ b x xr d M k e v h => by
  obtain ⟨ds, h1, h2⟩ := Option.bind_eq_some_iff.mp e
  obtain ⟨ns, h3, h4⟩ := Option.map_eq_some_iff.mp h2
  subst h4
  rw [rn_bl] at h
  exact ⟨ns, by rw [vw_ls h1 v, unB_eq h3, rn_bls], h⟩
end DL
end
section
set_option Elab.async false
set_option linter.all false
set_option maxRecDepth 100000
namespace DL
open PySem L2
/-! ### any judgement that hands on a value -/
structure IJ (γ : Nat → Addr) (J : DS → Store → DK → Prop) (s : SE) : Prop where
  go : ∀ b u M0 Δ Δr M n (k : DK), SI γ b u M0 Δ Δr M n → wpB b n (s Δ) (fun d n' => ∀ M', Aft b u M M' n' → k (rn (rho γ u) d) M') → J Δr M k
section
variable {γ : Nat → Addr} {X : Cx} {a c e e2 : Expr} {es rest : List Expr} {pos p : Pos} {x : Str} {op : CmpOp} {J : DS → Store → DK → Prop} {s t : SE}
theorem j_two {PP : D → D → Store → DK → Prop} {g : D → D → Option D} (hev : ∀ Δr M k, (EvD X a Δr M fun d1 M1 => EvD X c Δr M1 fun d2 M2 => PP d1 d2 M2 k) → J Δr M k) (ok : Ok2 PP g) (ha : IE γ X a s) (hc : IE γ X c t) : IJ γ J (c2 g s t) := .mk fun b u M0 Δ Δr M n k S w => by
  refine hev Δr M k (ha.go b u M0 Δ Δr M n _ S ((wpB_bind.1 w).mono fun x n1 w1 M1 A1 => hc.go b u M0 Δ Δr M1 n1 _ (S.aft A1) ((wpB_bind.1 w1).mono fun y n2 w2 M2 A2 => ?_)))
  obtain ⟨d, h1, h2⟩ := wpB_ofO w2
  exact ok _ x y d M2 k h1 (h2 M2 (A1.trans A2))
theorem j_twoW {PP : D → D → Store → DK → Prop} {g : D → D → Option D} (hev : ∀ Δr M k, (EvD X a Δr M fun d1 M1 => EvD X c Δr M1 fun d2 M2 => PP d1 d2 M2 k) → J Δr M k) (ok : OkW2 PP g) (ha : IE γ X a s) (hc : IV γ X c t) : IJ γ J (c2 g s t) := .mk fun b u M0 Δ Δr M n k S w => by
  refine hev Δr M k (ha.go b u M0 Δ Δr M n _ S ((wpB_bind.1 w).mono fun x n1 w1 M1 A1 => hc.go b u M0 Δ Δr M1 n1 _ (S.aft A1) ((wpB_bind.1 w1).mono fun y n2 w2 M2 yr A2 V2 => ?_)))
  obtain ⟨d, h1, h2⟩ := wpB_ofO w2
  exact ok _ b x y yr d M2 k h1 V2 (h2 M2 (A1.trans A2))
abbrev IC (γ : Nat → Addr) (X : Cx) (op : CmpOp) (a c : Expr) (s : SE) : Prop := IJ γ (EvC X op a c) s
/-! operators -/
theorem i_add (ha : IE γ X a s) (hc : IE γ X c t) : IE γ X (.BinOp a .Add c pos) (c2 addO s t) := i_two (fun _ _ _ h => ev_add h) add_ok ha hc
theorem i_sub (ha : IE γ X a s) (hc : IE γ X c t) : IE γ X (.BinOp a .Sub c pos) (c2 subO s t) := i_two (fun _ _ _ h => ev_sub h) sub_ok ha hc
theorem i_mul (ha : IE γ X a s) (hc : IE γ X c t) : IE γ X (.BinOp a .Mult c pos) (c2 mulO s t) := i_two (fun _ _ _ h => ev_mul h) mul_ok ha hc
theorem i_mod (ha : IE γ X a s) (hc : IE γ X c t) : IE γ X (.BinOp a .Mod c pos) (c2 modO s t) := i_two (fun _ _ _ h => ev_mod h) mod_ok ha hc
theorem i_pow (ha : IE γ X a s) (hc : IE γ X c t) : IE γ X (.BinOp a .Pow c pos) (c2 powO s t) := i_two (fun _ _ _ h => ev_pow h) pow_ok ha hc
theorem i_neg (ha : IE γ X a s) : IE γ X (.UnaryOp .USub a pos) (c1 negO s) := i_one (fun _ _ _ h => ev_neg h) neg_ok ha
/-! comparisons -/
theorem k_eq (hu : X.A.units + 64 < cLine) (ha : IE γ X a s) (hc : IE γ X c t) : IC γ X .Eq a c (c2 (eqO false) s t) := j_two (fun _ _ _ h => c_eq hu h) eq_ok ha hc
theorem k_ne (hu : X.A.units + 64 < cLine) (ha : IE γ X a s) (hc : IE γ X c t) : IC γ X .NotEq a c (c2 (eqO true) s t) := j_two (fun _ _ _ h => c_ne hu h) eq_ok ha hc
theorem k_in (ha : IE γ X a s) (hc : IV γ X c t) : IC γ X .In a c (c2 (inO false) s t) := j_twoW (fun _ _ _ h => c_in h) in_ok ha hc
theorem k_notin (ha : IE γ X a s) (hc : IV γ X c t) : IC γ X .NotIn a c (c2 (inO true) s t) := j_twoW (fun _ _ _ h => c_notin h) in_ok ha hc
theorem k_is {j : Nat} (ha : IE γ X a s) : IC γ X .Is a (.Constant .none j p) (c1 (nonO false) s) := .mk fun b u M0 Δ Δr M n k S w => by
  refine c_isN (ha.go b u M0 Δ Δr M n _ S ((wpB_bind.1 w).mono fun x n1 w1 M1 A1 => ?_))
  have w2 := w1 M1 A1
  rw [rn_bl] at w2
  rw [isNon_rn]
  exact w2
theorem k_isnot {j : Nat} (ha : IE γ X a s) : IC γ X .IsNot a (.Constant .none j p) (c1 (nonO true) s) := .mk fun b u M0 Δ Δr M n k S w => by
  refine c_notN (ha.go b u M0 Δ Δr M n _ S ((wpB_bind.1 w).mono fun x n1 w1 M1 A1 => ?_))
  have w2 := w1 M1 A1
  rw [rn_bl] at w2
  rw [isNon_rn]
  exact w2
theorem i_cmp (hm : behindInMarks op c = false) (h : IC γ X op a c s) : IE γ X (.Compare a [op] [c] pos) s := .mk fun b u M0 Δ Δr M n k S w => ev_c1 hm (h.go b u M0 Δ Δr M n k S w)
def toB : D → Option Bool
  | .bl c => some c
  | _ => none
theorem toB_is {d : D} {c : Bool} (h : toB d = some c) : d = .bl c := by
  unfold toB at h
  split at h
  · cases h; rfl
  · cases h
def tB (s : SE) : SB := fun Δ => (s Δ).bind fun d => ofO (toB d)
theorem t_cmp (hm : behindInMarks op c = false) (h : IC γ X op a c s) : IT γ X (.Compare a [op] [c] pos) (tB s) := .mk fun b u M0 Δ Δr M n k S w => te_c1 hm (h.go b u M0 Δ Δr M n _ S ((wpB_bind.1 w).mono fun d n1 w1 M1 A1 => by
  obtain ⟨c, h1, h2⟩ := wpB_ofO w1
  rw [toB_is h1, rn_bl]
  exact ⟨c, rfl, h2 M1 A1⟩))
/-! a < b < c -/
def cCh (op op' : CmpOp) (a c d : SE) : SE := fun Δ => (a Δ).bind fun x => (c Δ).bind fun y => (ofO ((coO op x y).bind toB)).bind fun z => if z = true then (d Δ).bind fun w => ofO (coO op' y w) else .ret (.bl false)
/-! truth -/
def truO : D → Option Bool
  | .non => some false | .bl b => some b | .int i => some (i != 0)
  | .tup ds => some (!ds.isEmpty) | .lst ds => some (!ds.isEmpty) | .frl ds => some (!ds.isEmpty) | .str x => if x.length ≤ lim then some ((x.length : Int) != 0) else none
  | _ => none
theorem rnL_emp {ρ : Nat → Addr} (ds : List D) : (rnL ρ ds).isEmpty = ds.isEmpty := by rw [rnL_map]; exact List.isEmpty_map
theorem tru_vw {ρ : Nat → Addr} {b : Bool} {M : Store} {d dr : D} {z : Bool} (h : truO d = some z) (v : Vw ρ b M d dr) : truD M dr = some z := by
  rcases v with rfl | ⟨q, es, rfl, rfl, h2, _⟩
  · unfold truO at h
    split at h <;> first | cases h | skip
    · rw [rn_non]; rfl
    · rw [rn_bl]; rfl
    · rw [rn_int]; rfl
    · rw [rn_tup]; show some _ = _; rw [rnL_emp]
    · rw [rn_lst]; show some _ = _; rw [rnL_emp]
    · rw [rn_frl]; show some _ = _; rw [rnL_emp]
    · split at h
      · rename_i hl
        cases h
        rw [rn_str]
        show (if _ then _ else none) = _
        rw [if_pos (by rw [lim_eq] at *; exact hl)]
      · cases h
  · cases h
    rw [tru_cell h2, rnL_emp]
def tT (s : SE) : SB := fun Δ => (s Δ).bind fun d => ofO (truO d)
theorem t_truth (he : ∀ whole, isTrue a X.env whole = (do let v ← whole; standAt a.pos; holding [v] (truthy v))) (h : IV γ X a s) : IT γ X a (tT s) := .mk fun b u M0 Δ Δr M n k S w => te_truth he (h.go b u M0 Δ Δr M n _ S ((wpB_bind.1 w).mono fun d n1 w1 M1 dr A1 V1 => by
  obtain ⟨c, h1, h2⟩ := wpB_ofO w1
  exact ⟨c, tru_vw h1 V1, h2 M1 A1⟩))
def tNot (s : SB) : SB := fun Δ => (s Δ).bind fun d => .ret (!d)
theorem t_not {s : SB} (h : IT γ X a s) : IT γ X (.UnaryOp .Not a pos) (tNot s) := .mk fun b u M0 Δ Δr M n k S w => te_not (h.go b u M0 Δ Δr M n _ S ((wpB_bind.1 w).mono fun d n1 w1 M1 A1 => w1 M1 A1))
def cNot (s : SE) : SE := fun Δ => (s Δ).bind fun d => (ofO (toB d)).bind fun c => .ret (.bl (!c))
theorem i_not (h : IE γ X a s) : IE γ X (.UnaryOp .Not a pos) (cNot s) := .mk fun b u M0 Δ Δr M n k S w => ev_not (h.go b u M0 Δ Δr M n _ S ((wpB_bind.1 w).mono fun d n1 w1 M1 A1 => by
  obtain ⟨c, h1, h2⟩ := wpB_ofO (wpB_bind.1 w1)
  have h3 := h2 M1 A1
  rw [toB_is h1, rn_bl]
  rw [rn_bl] at h3
  exact ⟨c, rfl, h3⟩))
/-! and, or -/
structure IW (γ : Nat → Addr) (X : Cx) (e : Expr) (s : SB) : Prop where
  go : ∀ b u M0 Δ Δr M n (k : BK), SI γ b u M0 Δ Δr M n → wpB b n (s Δ) (fun d n' => ∀ M', Aft b u M M' n' → k d M') → WeD X e Δr M k
def tAnd (s t : SB) : SB := fun Δ => (s Δ).bind fun c => if c = true then t Δ else .ret false
def tOr (s t : SB) : SB := fun Δ => (s Δ).bind fun c => if c = true then .ret true else t Δ
theorem t_w {s : SB} (h : IW γ X e s) : IT γ X e s := .mk fun b u M0 Δ Δr M n k S w => te_w (h.go b u M0 Δ Δr M n k S w)
theorem w_and1 {s : SB} (h : IT γ X a s) : IW γ X (.BoolOp .And [a] pos) s := .mk fun b u M0 Δ Δr M n k S w => we_and1 (h.go b u M0 Δ Δr M n k S w)
theorem w_or1 {s : SB} (h : IT γ X a s) : IW γ X (.BoolOp .Or [a] pos) s := .mk fun b u M0 Δ Δr M n k S w => we_or1 (h.go b u M0 Δ Δr M n k S w)
theorem w_and {s t : SB} (h : IT γ X a s) (h2 : IW γ X (.BoolOp .And (c :: rest) pos) t) : IW γ X (.BoolOp .And (a :: c :: rest) pos) (tAnd s t) := .mk fun b u M0 Δ Δr M n k S w => we_and (h.go b u M0 Δ Δr M n _ S ((wpB_bind.1 w).mono fun d n1 w1 M1 A1 => by
  cases d with
  | true => exact h2.go b u M0 Δ Δr M1 n1 k (S.aft A1) (w1.mono fun d n2 q M2 A2 => q M2 (A1.trans A2))
  | false => exact w1 M1 A1))
theorem w_or {s t : SB} (h : IT γ X a s) (h2 : IW γ X (.BoolOp .Or (c :: rest) pos) t) : IW γ X (.BoolOp .Or (a :: c :: rest) pos) (tOr s t) := .mk fun b u M0 Δ Δr M n k S w => we_or (h.go b u M0 Δ Δr M n _ S ((wpB_bind.1 w).mono fun d n1 w1 M1 A1 => by
  cases d with
  | false => exact h2.go b u M0 Δ Δr M1 n1 k (S.aft A1) (w1.mono fun d n2 q M2 A2 => q M2 (A1.trans A2))
  | true => exact w1 M1 A1))
def eAnd (s t : SE) : SE := fun Δ => (s Δ).bind fun d => (ofO (toB d)).bind fun c => if c = true then t Δ else .ret (.bl false)
theorem i_b1 {bop} (h : IE γ X a s) : IE γ X (.BoolOp bop [a] pos) s := .mk fun b u M0 Δ Δr M n k S w => ev_one (h.go b u M0 Δ Δr M n k S w)
theorem i_and (h : IE γ X a s) (h2 : IE γ X (.BoolOp .And (c :: rest) pos) t) : IE γ X (.BoolOp .And (a :: c :: rest) pos) (eAnd s t) := .mk fun b u M0 Δ Δr M n k S w => ev_and (h.go b u M0 Δ Δr M n _ S ((wpB_bind.1 w).mono fun d n1 w1 M1 A1 => by
  obtain ⟨z, h1, w2⟩ := wpB_ofO (wpB_bind.1 w1)
  rw [toB_is h1, rn_bl]
  refine ⟨z, rfl, ?_⟩
  cases z with
  | true => exact h2.go b u M0 Δ Δr M1 n1 k (S.aft A1) (w2.mono fun d n2 q M2 A2 => q M2 (A1.trans A2))
  | false =>
    have w3 := w2 M1 A1
    rw [rn_bl] at w3
    exact w3))
def eOr (s t : SE) : SE := fun Δ => (s Δ).bind fun d => (ofO (truO d)).bind fun c => if c = true then .ret d else t Δ
def cIf (t : SB) (s r : SE) : SE := fun Δ => (t Δ).bind fun c => if c = true then s Δ else r Δ
theorem i_if {g : Expr} {tb : SB} (h : IT γ X g tb) (ha : IE γ X a s) (hc : IE γ X c t) : IE γ X (.IfExp g a c pos) (cIf tb s t) := .mk fun b u M0 Δ Δr M n k S w => ev_if (h.go b u M0 Δ Δr M n _ S ((wpB_bind.1 w).mono fun d n1 w1 M1 A1 => by
  cases d with
  | true => exact ha.go b u M0 Δ Δr M1 n1 k (S.aft A1) (w1.mono fun d n2 q M2 A2 => q M2 (A1.trans A2))
  | false => exact hc.go b u M0 Δ Δr M1 n1 k (S.aft A1) (w1.mono fun d n2 q M2 A2 => q M2 (A1.trans A2))))
/-! ### rows -/
def aN : SA := fun _ => .ret []
def aC (s : SE) (t : SA) : SA := fun Δ => (s Δ).bind fun d => (t Δ).bind fun ds => .ret (d :: ds)
theorem a_nil : IA γ X [] aN := .mk fun b u M0 Δ Δr M n k S w => by
  have w := w M S.here
  unfold rnL at w
  exact ea_nil w
theorem a_cons {t : SA} (h : IE γ X e s) (ht : IA γ X es t) (hs : starEach (e :: es) X.env = (false, eval e X.env) :: starEach es X.env := by rfl) : IA γ X (e :: es) (aC s t) := .mk fun b u M0 Δ Δr M n k S w => ea_cons (h.go b u M0 Δ Δr M n _ S ((wpB_bind.1 w).mono fun d n1 w1 M1 A1 => ht.go b u M0 Δ Δr M1 n1 _ (S.aft A1) ((wpB_bind.1 w1).mono fun ds n2 w2 M2 A2 => by
  have w3 := w2 M2 (A1.trans A2)
  unfold rnL at w3
  exact w3))) hs
def cTup (s : SA) : SE := fun Δ => (s Δ).bind fun ds => if ds.length ≤ lim then .ret (.tup ds) else .fail
theorem i_tup {s : SA} {x1} (h : IA γ X es s) : IE γ X (.Tuple es x1 pos) (cTup s) := .mk fun b u M0 Δ Δr M n k S w => ev_tup (h.go b u M0 Δ Δr M n _ S ((wpB_bind.1 w).mono fun ds n1 w1 M1 A1 => by
  split at w1
  · rename_i l
    have w2 := w1 M1 A1
    rw [rn_tup] at w2
    exact ⟨by rw [lim_eq, rnL_len]; exact l, w2⟩
  · exact w1.elim))
def aL (s : SA) : SA := fun Δ => (s Δ).bind fun ds => if ds.length ≤ lim then .ret ds else .fail
theorem l_lst {s : SA} (h : IA γ X es s) : IL γ X (.List es pos) (aL s) := .mk fun b u M0 Δ Δr M n k S w => el_lst (h.go b u M0 Δ Δr M n _ S ((wpB_bind.1 w).mono fun ds n1 w1 M1 A1 => by
  split at w1
  · rename_i l
    exact ⟨by rw [lim_eq, rnL_len]; exact l, w1 M1 A1⟩
  · exact w1.elim))
def cL (s : SA) : SE := fun Δ => (s Δ).bind fun ds => .ret (.lst ds)
theorem IL.frz {s : SA} (h : IL γ X e s) : IE γ X e (cL s) := .mk fun b u M0 Δ Δr M n k S w => EvL.frz (h.go b u M0 Δ Δr M n _ S ((wpB_bind.1 w).mono fun ds n1 w1 M1 A1 => by
  have w2 := w1 M1 A1
  rw [rn_lst] at w2
  exact w2))
/-! items and slices -/
theorem i_ix (hs : PlainIx c) (ha : IV γ X a s) (hc : IE γ X c t) : IE γ X (.Subscript a c pos) (c2 ixO s t) := i_twoV (fun _ _ _ h => ev_ix hs h) ix_ok ha hc
theorem i_sl10 {p2 : Pos} (ha : IV γ X a s) (hc : IE γ X c t) : IE γ X (.Subscript a (.Slice (some c) none none p2) pos) (c2 sl10 s t) := i_twoV (fun _ _ _ h => ev_sl10 h) (fun ρ b x xr y d M k e v h => by
  obtain ⟨i, h1, h2⟩ := Option.bind_eq_some_iff.mp e
  rw [intOf_is h1, rn_int]
  exact ⟨i, rfl, sl_ok h2 v h⟩) ha hc
theorem i_sl01 {p2 : Pos} (ha : IV γ X a s) (hc : IE γ X c t) : IE γ X (.Subscript a (.Slice none (some c) none p2) pos) (c2 sl01 s t) := i_twoV (fun _ _ _ h => ev_sl01 h) (fun ρ b x xr y d M k e v h => by
  obtain ⟨i, h1, h2⟩ := Option.bind_eq_some_iff.mp e
  rw [intOf_is h1, rn_int]
  exact ⟨i, rfl, sl_ok h2 v h⟩) ha hc
def cSl (a c d : SE) : SE := fun Δ => (a Δ).bind fun x => (c Δ).bind fun y => (ofO (intOf y)).bind fun i => (d Δ).bind fun z => (ofO (intOf z)).bind fun j => ofO (slO x (some i) (some j))
theorem i_sl11 {g : Expr} {r : SE} {p2 : Pos} (ha : IV γ X a s) (hc : IE γ X c t) (hg : IE γ X g r) : IE γ X (.Subscript a (.Slice (some c) (some g) none p2) pos) (cSl s t r) := .mk fun b u M0 Δ Δr M n k S w => by
  refine ev_sl11 (ha.go b u M0 Δ Δr M n _ S ((wpB_bind.1 w).mono fun x n1 w1 M1 xr A1 V1 => hc.go b u M0 Δ Δr M1 n1 _ (S.aft A1) ((wpB_bind.1 w1).mono fun y n2 w2 M2 A2 => ?_)))
  obtain ⟨i, h1, w3⟩ := wpB_ofO (wpB_bind.1 w2)
  rw [intOf_is h1, rn_int]
  have A12 := A1.trans A2
  refine ⟨i, rfl, hg.go b u M0 Δ Δr M2 n2 _ (S.aft A12) ((wpB_bind.1 w3).mono fun z n3 w4 M3 A3 => ?_)⟩
  obtain ⟨j, h2, w5⟩ := wpB_ofO (wpB_bind.1 w4)
  obtain ⟨d, h3, h4⟩ := wpB_ofO w5
  rw [intOf_is h2, rn_int]
  exact ⟨j, rfl, sl_ok h3 ((V1.keep A2.keep).keep A3.keep) (h4 M3 (A12.trans A3))⟩
end
end DL
end
section
set_option Elab.async false
set_option linter.all false
set_option maxRecDepth 100000
namespace DL
open PySem L2 PyProof.Rows
/-! ### sorting -/
def insI (x : Int) : List Int → List Int
  | [] => [x]
  | y :: r => if x ≤ y then x :: y :: r else y :: insI x r
def sortI : List Int → List Int
  | [] => []
  | x :: r => insI x (sortI r)
theorem insI_perm (x : Int) : ∀ l : List Int, (insI x l).Perm (x :: l)
  | [] => .refl _
  | y :: r => by
    unfold insI
    split
    · exact .refl _
    · exact ((insI_perm x r).cons y).trans (.swap x y r)
theorem sortI_perm : ∀ l : List Int, (sortI l).Perm l
  | [] => .refl _
  | x :: r => (insI_perm x _).trans ((sortI_perm r).cons x)
theorem insI_pw (x : Int) : ∀ {l : List Int}, l.Pairwise (· ≤ ·) → (insI x l).Pairwise (· ≤ ·)
  | [], _ => List.pairwise_singleton _ _
  | y :: r, h => by
    unfold insI
    obtain ⟨h1, h2⟩ := List.pairwise_cons.mp h
    split
    · rename_i hxy
      refine List.pairwise_cons.mpr ⟨fun z hz => ?_, h⟩
      rcases List.mem_cons.mp hz with e | hz
      · rw [e]; exact hxy
      · exact Int.le_trans hxy (h1 z hz)
    · rename_i hxy
      refine List.pairwise_cons.mpr ⟨fun z hz => ?_, insI_pw x h2⟩
      rcases List.mem_cons.mp ((insI_perm x r).mem_iff.mp hz) with e | hz
      · rw [e]; omega
      · exact h1 z hz
theorem sortI_pw : ∀ l : List Int, (sortI l).Pairwise (· ≤ ·)
  | [] => List.Pairwise.nil
  | x :: r => insI_pw x (sortI_pw r)
theorem sortI_of {ms ns : List Int} (hp : ms.Perm ns) (hw : ms.Pairwise (· ≤ ·)) : ms = sortI ns :=
  List.Perm.eq_of_pairwise (fun a b _ _ h1 h2 => Int.le_antisymm h1 h2) hw (sortI_pw ns) (hp.trans (sortI_perm ns).symm)
/-- texts, with those that come again -/
def insT (x : Str) : List Str → List Str
  | [] => [x]
  | y :: r => if lts y x = true then y :: insT x r else x :: y :: r
def sortT : List Str → List Str
  | [] => []
  | x :: r => insT x (sortT r)
theorem insT_perm (x : Str) : ∀ l : List Str, (insT x l).Perm (x :: l)
  | [] => .refl _
  | y :: r => by
    unfold insT
    split
    · exact ((insT_perm x r).cons y).trans (.swap x y r)
    · exact .refl _
theorem sortT_perm : ∀ l : List Str, (sortT l).Perm l
  | [] => .refl _
  | x :: r => (insT_perm x _).trans ((sortT_perm r).cons x)
theorem nlt_trans {x y z : Str} (h : lts y x = false) (g : lts z y = false) : lts z x = false := by
  cases c : lts z x with
  | false => rfl
  | true =>
    cases c2 : lts y z with
    | true => rw [lts_trans c2 c] at h; cases h
    | false =>
      have e := lts_tri g c2
      subst e
      rw [c] at h
      cases h
theorem lt_asym {x y : Str} (h : lts x y = true) : lts y x = false := by
  cases c : lts y x with
  | false => rfl
  | true =>
    have := lts_trans h c
    rw [lts_irr] at this
    cases this
theorem insT_pw (x : Str) : ∀ {l : List Str}, l.Pairwise (fun a b => lts b a = false) → (insT x l).Pairwise fun a b => lts b a = false
  | [], _ => List.pairwise_singleton _ _
  | y :: r, h => by
    unfold insT
    obtain ⟨h1, h2⟩ := List.pairwise_cons.mp h
    split
    · rename_i hxy
      refine List.pairwise_cons.mpr ⟨fun z hz => ?_, insT_pw x h2⟩
      rcases List.mem_cons.mp ((insT_perm x r).mem_iff.mp hz) with e | hz
      · rw [e]; exact lt_asym hxy
      · exact h1 z hz
    · rename_i hxy
      have hxy' : lts y x = false := by simpa using hxy
      refine List.pairwise_cons.mpr ⟨fun z hz => ?_, h⟩
      rcases List.mem_cons.mp hz with e | hz
      · rw [e]; exact hxy'
      · exact nlt_trans hxy' (h1 z hz)
theorem sortT_pw : ∀ l : List Str, (sortT l).Pairwise fun a b => lts b a = false
  | [] => List.Pairwise.nil
  | x :: r => insT_pw x (sortT_pw r)
theorem sortT_of {ms ns : List Str} (hp : ms.Perm ns) (hw : sortedS ms = true) : ms = sortT ns :=
  List.Perm.eq_of_pairwise (le := fun a b => lts b a = false) (fun a b _ _ h1 h2 => lts_tri h2 h1) (sorted_pair hw) (sortT_pw ns) (hp.trans (sortT_perm ns).symm)
section
variable {γ : Nat → Addr} {X : Cx} {a c e e2 tg : Expr} {es rest : List Expr} {pos p : Pos} {x : Str} {op : CmpOp} {s t : SE}
/-! ### built-ins -/
theorem i_len (hg : Gl X "len") (hm : X.mg "len" = none) (h : IV γ X e s) (hs : starEach [e] X.env = [(false, eval e X.env)] := by rfl) : IE γ X (.Call (.Name "len" p) [e] [] pos) (c1 lenO' s) := i_oneV (fun _ _ _ h => ev_len hg hm h hs) len_ok h
theorem i_sum (hc : X.calm = true) (hg : Gl X "sum") (hm : X.mg "sum" = none) (h : IV γ X e s) (hs : starEach [e] X.env = [(false, eval e X.env)] := by rfl) : IE γ X (.Call (.Name "sum" p) [e] [] pos) (c1 sumO s) := i_oneV (fun _ _ _ h => ev_sum hc hg hm h hs) sum_ok h
theorem i_all (hc : X.calm = true) (hg : Gl X "all") (hm : X.mg "all" = none) (h : IV γ X e s) (hs : starEach [e] X.env = [(false, eval e X.env)] := by rfl) : IE γ X (.Call (.Name "all" p) [e] [] pos) (c1 allO s) := i_oneV (fun _ _ _ h => ev_all hc hg hm h hs) all_ok h
theorem i_any (hc : X.calm = true) (hg : Gl X "any") (hm : X.mg "any" = none) (h : IV γ X e s) (hs : starEach [e] X.env = [(false, eval e X.env)] := by rfl) : IE γ X (.Call (.Name "any" p) [e] [] pos) (c1 anyO s) := i_oneV (fun _ _ _ h => ev_any hc hg hm h hs) any_ok h
theorem i_max2 (hc : X.calm = true) (hg : Gl X "max") (hm : X.mg "max" = none) (h : IE γ X e s) (h2 : IE γ X e2 t) (hs : starEach [e, e2] X.env = (false, eval e X.env) :: starEach [e2] X.env := by rfl) (hs2 : starEach [e2] X.env = [(false, eval e2 X.env)] := by rfl) (hpl : (backTo pos (starEach [e2] X.env)).any (·.1) = false := by rfl) : IE γ X (.Call (.Name "max" p) [e, e2] [] pos) (c2 maxO s t) := i_two (fun _ _ _ h => ev_max2 hc hg hm h hs hs2 hpl) max_ok h h2
/-- sorted: of ints, of texts -/
def srtO (ds : List D) : Option (List D) := match unI ds with
  | some ns => some ((sortI ns).map D.int)
  | none => (unS ds).bind fun xs => if xs.length < 64 then some ((sortT xs).map D.str) else none
def aSort (s : SE) : SA := fun Δ => (s Δ).bind fun d => ofO ((lsV d).bind srtO)
/-- list(x), tuple(x) -/
def itemsV : D → Option (List D)
  | .str z => if z.cps.size ≤ lim then some (signs z) else none
  | d => seqV d
def aList (s : SE) : SA := fun Δ => (s Δ).bind fun d => ofO (itemsV d)
theorem rn_signs {ρ : Nat → Addr} (z : Str) : rnL ρ (signs z) = signs z := by
  unfold signs
  rw [rnL_map, List.map_map]
  exact List.map_congr_left fun i _ => rn_str _
theorem l_list (hc : X.calm = true) (hg : Gl X "list") (hm : X.mg "list" = none) (h : IV γ X e s) (hs : starEach [e] X.env = [(false, eval e X.env)] := by rfl) : IL γ X (.Call (.Name "list" p) [e] [] pos) (aList s) := .mk fun b u M0 Δ Δr M n k S w => by
  refine el_callT (call_list_of.or (cr_listS hc)) hg hm (by decide +kernel) (by decide) (by decide) hs rfl (one1 (h.go b u M0 Δ Δr M n _ S ((wpB_bind.1 w).mono fun d n1 w1 M1 dr A1 V1 => ?_)) hs)
  obtain ⟨ds, h1, h2⟩ := wpB_ofO w1
  have hk := h2 M1 A1
  refine fun F0 M0' H0 F H vs Q st ok i post => ?_
  obtain ⟨v, rfl, iv⟩ := isL1 i
  unfold itemsV at h1
  split at h1
  · split at h1
    · rename_i z hz
      cases h1
      rw [rn_signs] at hk
      rcases V1 with rfl | ⟨q, es, _, e2, _⟩
      · rw [rn_str] at iv
        rw [is_str.1 iv]
        exact .inr ⟨z, rfl, by rw [lim_eq]; exact hz, fun vs l il hl => post.new st ok hk hl (il _ _)⟩
      · cases e2
    · cases h1
  · obtain ⟨q, ws, rfl, hq, hl⟩ := seq_of ok (vw_seq h1 V1) iv
    exact .inl ⟨q, ws, rfl, hq, fun t ht => post.new st ok hk ht hl⟩
def tupO (d : D) : Option D := (itemsV d).map D.tup
theorem i_tuple (hc : X.calm = true) (hg : Gl X "tuple") (hm : X.mg "tuple" = none) (h : IV γ X e s) (hs : starEach [e] X.env = [(false, eval e X.env)] := by rfl) : IE γ X (.Call (.Name "tuple" p) [e] [] pos) (c1 tupO s) := .mk fun b u M0 Δ Δr M n k S w => by
  refine ev_callT (call_tupleB.or (cr_tupleS hc)) hg hm (by decide +kernel) (by decide) (by decide) hs rfl (one1 (h.go b u M0 Δ Δr M n _ S ((wpB_bind.1 w).mono fun d n1 w1 M1 dr A1 V1 => ?_)) hs)
  obtain ⟨d2, h1, h2⟩ := wpB_ofO w1
  obtain ⟨ds, h3, h4⟩ := Option.map_eq_some_iff.mp h1
  subst h4
  have hk := h2 M1 A1
  rw [rn_tup] at hk
  refine fun F H vs Q ok i post => ?_
  obtain ⟨v, rfl, iv⟩ := isL1 i
  unfold itemsV at h3
  split at h3
  · split at h3
    · rename_i z hz
      cases h3
      rw [rn_signs] at hk
      rcases V1 with rfl | ⟨q, es, _, e2, _⟩
      · rw [rn_str] at iv
        rw [is_str.1 iv]
        refine .inr ⟨z, rfl, by rw [lim_eq]; exact hz, fun vs il l ob hl hd => ?_⟩
        have nw := ok.new (o := .frz ob (.tup vs)) hl
        exact post _ M1 _ _ _ hk nw.2 nw.1 (is_tup.2 ⟨l, vs, rfl, .inl ⟨ob, hd, upd_same⟩, il _ _⟩)
      · cases e2
    · cases h3
  · cases ht : tupOf dr with
    | some es =>
      have e := tupOf_is ht
      subst e
      have := vw_seq h3 V1
      cases (show some es = some (rnL _ ds) from this)
      obtain ⟨q, ws, rfl, hq, hl⟩ := is_tup.1 iv
      exact .inl ⟨q, ws, rfl, .inr ⟨ok.sqT hq, post.here ok hk (is_tup.2 ⟨q, ws, rfl, hq, hl⟩)⟩⟩
    | none =>
      have h2 : lsD M1 dr = some (rnL (rho γ u) ds) := by
        have h1 := vw_seq h3 V1
        unfold seqD at h1
        unfold lsD
        cases dr with
        | tup z => cases ht
        | _ => exact h1
      obtain ⟨q, ws, rfl, hq, hl⟩ := ls_of ok h2 iv
      exact .inl ⟨q, ws, rfl, .inl ⟨hq, fun t ob ht hd => post.fresh ok hk ht (tup_new hd hl (ok.fresh ht).1)⟩⟩
/-- isinstance of built-in kinds -/
theorem tyD_rn {ρ : Nat → Addr} {d : D} {z : String} (h : tyD d = some z) : tyD (rn ρ d) = some z := by
  unfold tyD at h
  split at h <;> first | cases h | skip
  · rw [rn_non]; rfl
  · rw [rn_bl]; rfl
  · rw [rn_int]; rfl
  · rw [rn_str]; rfl
  · rw [rn_tup]; rfl
  · rw [rn_lst]; rfl
def tyOf : D → Option String
  | .ty n => some n
  | _ => none
theorem tyOf_is {d : D} {n : String} (h : tyOf d = some n) : d = .ty n := by
  unfold tyOf at h
  split at h
  · cases h; rfl
  · cases h
def isiO (x y : D) : Option D := (tyD x).bind fun z => (tyOf y).bind fun t => (kt z t).map D.bl
theorem i_isi (hg : Gl X "isinstance") (hm : X.mg "isinstance" = none) (h : IE γ X e s) (h2 : IE γ X e2 t) (hs : starEach [e, e2] X.env = (false, eval e X.env) :: starEach [e2] X.env := by rfl) (hs2 : starEach [e2] X.env = [(false, eval e2 X.env)] := by rfl) (hpl : (backTo pos (starEach [e2] X.env)).any (·.1) = false := by rfl) : IE γ X (.Call (.Name "isinstance" p) [e, e2] [] pos) (c2 isiO s t) :=
  i_two (fun _ _ _ h => ev_isi hg hm h hs hs2 hpl) (fun ρ x y d M k q h => by
    obtain ⟨z, h1, q⟩ := Option.bind_eq_some_iff.mp q
    obtain ⟨n, h2, q⟩ := Option.bind_eq_some_iff.mp q
    obtain ⟨c, h3, rfl⟩ := Option.map_eq_some_iff.mp q
    rw [rn_bl] at h
    rw [tyOf_is h2, rn_ty]
    exact ⟨z, n, c, tyD_rn h1, rfl, h3, h⟩) h h2
def unT : List D → Option (List String)
  | [] => some []
  | .ty n :: r => (unT r).map (n :: ·)
  | _ => none
theorem unT_eq : ∀ {ds : List D} {ns : List String}, unT ds = some ns → ds = ns.map D.ty
  | [], _, h => by cases h; rfl
  | d :: r, ns, h => by
    cases d with
    | ty i =>
      obtain ⟨ms, h1, h2⟩ := Option.map_eq_some_iff.mp (show (unT r).map (i :: ·) = some ns from h)
      subst h2
      rw [unT_eq h1]; rfl
    | _ => cases h
theorem rn_tys {ρ : Nat → Addr} (ns : List String) : rnL ρ (ns.map D.ty) = ns.map D.ty := by
  rw [rnL_map, List.map_map]; exact List.map_congr_left fun i _ => rn_ty i
def cIsiT (s : SE) (t : SA) : SE := fun Δ => (s Δ).bind fun x => (t Δ).bind fun ds => ofO ((tyD x).bind fun z => (unT ds).bind fun ts => if ts.length ≤ 1000 then (ktAny z ts).map D.bl else none)
theorem i_isiT {p2 : Pos} {x1 : Nat} {t : SA} (hg : Gl X "isinstance") (hm : X.mg "isinstance" = none) (h : IE γ X e s) (h2 : IA γ X es t) (hs : starEach [e, .Tuple es x1 p2] X.env = (false, eval e X.env) :: starEach [.Tuple es x1 p2] X.env := by rfl) (hs2 : starEach [.Tuple es x1 p2] X.env = [(false, eval (.Tuple es x1 p2) X.env)] := by rfl) (hpl : (backTo pos (starEach [.Tuple es x1 p2] X.env)).any (·.1) = false := by rfl) : IE γ X (.Call (.Name "isinstance" p) [e, .Tuple es x1 p2] [] pos) (cIsiT s t) := .mk fun b u M0 Δ Δr M n k S w => by
  refine ev_isiT hg hm (h.go b u M0 Δ Δr M n _ S ((wpB_bind.1 w).mono fun d n1 w1 M1 A1 => h2.go b u M0 Δ Δr M1 n1 _ (S.aft A1) ((wpB_bind.1 w1).mono fun ds n2 w2 M2 A2 => ?_))) hs hs2 hpl
  obtain ⟨r, q, hk⟩ := wpB_ofO w2
  obtain ⟨z, h1, q⟩ := Option.bind_eq_some_iff.mp q
  obtain ⟨ts, h3, q⟩ := Option.bind_eq_some_iff.mp q
  split at q
  · rename_i hl
    obtain ⟨c, h4, rfl⟩ := Option.map_eq_some_iff.mp q
    have hk := hk M2 (A1.trans A2)
    rw [rn_bl] at hk
    exact ⟨z, ts, c, tyD_rn h1, by rw [unT_eq h3, rn_tys], Nat.le_trans hl (by rw [lim_eq]; decide), h4, hk⟩
  · cases q
/-! ### calls -/
def spW (γ : Nat → Addr) (fl : List Bool) (F : List D → Pg D) : SpD := fun drs M k => ∃ b u ds n, VwL (rho γ u) b M fl ds drs ∧ UrnB b M u.1 n ∧ wpB b n (F ds) fun d n' => ∀ M', Aft b u M M' n' → k (rn (rho γ u) d) M'
/-- the arguments of a call -/
structure IAW (γ : Nat → Addr) (X : Cx) (fl : List Bool) (es : List Expr) (s : SA) : Prop where
  go : ∀ b u M0 Δ Δr M n (k : AK), SI γ b u M0 Δ Δr M n → wpB b n (s Δ) (fun ds n' => ∀ M' drs, Aft b u M M' n' → VwL (rho γ u) b M' fl ds drs → k drs M') → EvA X es Δr M k
theorem w_nil {s : SA} (h : IA γ X es s) : IAW γ X [] es s := .mk fun b u M0 Δ Δr M n k S w => h.go b u M0 Δ Δr M n k S (w.mono fun ds m q M' A => q M' _ A (by unfold VwL; rfl))
theorem w_v {fl : List Bool} {t : SA} (h : IE γ X e s) (ht : IAW γ X fl es t) (hs : starEach (e :: es) X.env = (false, eval e X.env) :: starEach es X.env := by rfl) : IAW γ X (false :: fl) (e :: es) (aC s t) := .mk fun b u M0 Δ Δr M n k S w => ea_cons (h.go b u M0 Δ Δr M n _ S ((wpB_bind.1 w).mono fun d n1 w1 M1 A1 => ht.go b u M0 Δ Δr M1 n1 _ (S.aft A1) ((wpB_bind.1 w1).mono fun ds n2 w2 M2 drs A2 V => w2 M2 _ (A1.trans A2) (by unfold VwL; exact ⟨rfl, V⟩)))) hs
theorem w_w {fl : List Bool} {t : SA} (h : IV γ X e s) (ht : IAW γ X fl es t) (hs : starEach (e :: es) X.env = (false, eval e X.env) :: starEach es X.env := by rfl) : IAW γ X (true :: fl) (e :: es) (aC s t) := .mk fun b u M0 Δ Δr M n k S w => ea_cons (h.go b u M0 Δ Δr M n _ S ((wpB_bind.1 w).mono fun d n1 w1 M1 dr A1 V1 => ht.go b u M0 Δ Δr M1 n1 _ (S.aft A1) ((wpB_bind.1 w1).mono fun ds n2 w2 M2 drs A2 V => w2 M2 _ (A1.trans A2) (by unfold VwL; exact ⟨V1.keep A2.keep, V⟩)))) hs
def cCall (F : List D → Pg D) (s : SA) : SE := fun Δ => (s Δ).bind F
theorem i_call {n : Nat} {fl : List Bool} {F : List D → Pg D} {s : SA} (C : Cal X.prog X.w X.K X.mg X.base x n (spW γ fl F)) (hr : Room n X.A) (hg : Gl X x) (h : IAW γ X fl (e :: es) s) (hdb : (x == ("__debug__" : Str)) = false := by decide)
    (he : starEach (e :: es) X.env = (false, eval e X.env) :: starEach es X.env := by rfl) (hpl : (backTo pos (starEach es X.env)).any (·.1) = false := by rfl) : IE γ X (.Call (.Name x p) (e :: es) [] pos) (cCall F s) := .mk fun b u M0 Δ Δr M n k S w =>
  ev_call C hr hg (h.go b u M0 Δ Δr M n _ S ((wpB_bind.1 w).mono fun ds n1 w1 M1 drs A1 V => ⟨b, u, ds, n1, V, A1.urn, w1.mono fun d n2 q M2 A2 => q M2 (A1.trans A2)⟩)) hdb he hpl
/-! x == y, the first a view -/
end
end DL
end
section
set_option Elab.async false
set_option linter.all false
set_option maxRecDepth 100000
namespace DL
open PySem L2 PyProof.Rows
/-! ### slots set, wiped -/
section
variable {ρ : Nat → Addr} {b : Bool} {M0 M : Store} {Δ : List Sl} {Δr : DS}
theorem set_get {α : Type} {l : List α} {i j : Nat} {x y : α} (h : (l.set i x)[j]? = some y) : (j = i ∧ i < l.length ∧ y = x) ∨ (j ≠ i ∧ l[j]? = some y) := by
  by_cases e : j = i
  · subst e
    have hj : j < l.length := by
      by_cases hj : j < l.length
      · exact hj
      · rw [List.getElem?_eq_none (by rw [List.length_set]; omega)] at h; cases h
    rw [List.getElem?_set_self hj] at h
    exact .inl ⟨rfl, hj, (Option.some.inj h).symm⟩
  · rw [List.getElem?_set_ne (Ne.symm e)] at h
    exact .inr ⟨e, h⟩
theorem Rel.setV (r : Rel ρ an b M0 Δ Δr M) (i : Nat) (d : D) : Rel ρ an b M0 (Δ.set i (.v d)) (Δr.set i (some (rn ρ d))) M := by
  refine ⟨by rw [List.length_set, List.length_set]; exact r.len, fun j c h => ?_, fun j m h => ?_, fun j l m m' q n h1 h2 h3 h4 => ?_, fun j c h => ?_⟩
  · rcases set_get h with ⟨rfl, hi, e⟩ | ⟨hn, h⟩
    · cases e
      exact List.getElem?_set_self (by rw [← r.len]; exact hi)
    · rw [List.getElem?_set_ne (Ne.symm hn)]
      exact r.v j c h
  · rcases set_get h with ⟨rfl, hi, e⟩ | ⟨hn, h⟩
    · cases e
    · rw [List.getElem?_set_ne (Ne.symm hn)]
      exact r.o j m h
  · rcases set_get h1 with ⟨rfl, hi, e⟩ | ⟨hn1, h1⟩
    · cases e
    · rcases set_get h2 with ⟨rfl, hi, e⟩ | ⟨hn2, h2⟩
      · cases e
      · rw [List.getElem?_set_ne (Ne.symm hn1)] at h3
        rw [List.getElem?_set_ne (Ne.symm hn2)] at h4
        exact r.inj j l m m' q n h1 h2 h3 h4
  · rcases set_get h with ⟨rfl, hi, e⟩ | ⟨hn, h⟩
    · cases e
    · rw [List.getElem?_set_ne (Ne.symm hn)]
      exact r.w j c h
theorem Rel.wipe1 (r : Rel ρ an b M0 Δ Δr M) (i : Nat) (z : Option D) : Rel ρ an b M0 (Δ.set i .e) (Δr.set i z) M := by
  refine ⟨by rw [List.length_set, List.length_set]; exact r.len, fun j c h => ?_, fun j m h => ?_, fun j l m m' q n h1 h2 h3 h4 => ?_, fun j c h => ?_⟩
  · rcases set_get h with ⟨rfl, hi, e⟩ | ⟨hn, h⟩
    · cases e
    · rw [List.getElem?_set_ne (Ne.symm hn)]
      exact r.v j c h
  · rcases set_get h with ⟨rfl, hi, e⟩ | ⟨hn, h⟩
    · cases e
    · rw [List.getElem?_set_ne (Ne.symm hn)]
      exact r.o j m h
  · rcases set_get h1 with ⟨rfl, hi, e⟩ | ⟨hn1, h1⟩
    · cases e
    · rcases set_get h2 with ⟨rfl, hi, e⟩ | ⟨hn2, h2⟩
      · cases e
      · rw [List.getElem?_set_ne (Ne.symm hn1)] at h3
        rw [List.getElem?_set_ne (Ne.symm hn2)] at h4
        exact r.inj j l m m' q n h1 h2 h3 h4
  · rcases set_get h with ⟨rfl, hi, e⟩ | ⟨hn, h⟩
    · cases e
    · rw [List.getElem?_set_ne (Ne.symm hn)]
      exact r.w j c h
end
def wipeS (Δ : List Sl) : List Nat → List Sl
  | [] => Δ
  | v :: vs => (wipeS Δ vs).set v .e
theorem Rel.wipe {ρ : Nat → Addr} {b : Bool} {M0 M : Store} {Δ : List Sl} {Δr : DS} (r : Rel ρ an b M0 Δ Δr M) : ∀ vs : List Nat, Rel ρ an b M0 (wipeS Δ vs) (wipeD Δr vs) M
  | [] => r
  | v :: vs => (r.wipe vs).wipe1 v none
/-! ### targets -/
inductive Tg where
  | nm (i : Nat) | tp (ts : List Tg)
mutual
def tgS : Tg → D → List Sl → Option (List Sl)
  | .nm i, d, Δ => some (Δ.set i (.v d))
  | .tp ts, .tup ds, Δ => tgSs ts ds Δ
  | .tp ts, .lst ds, Δ => tgSs ts ds Δ
  | .tp _, _, _ => none
def tgSs : List Tg → List D → List Sl → Option (List Sl)
  | [], [], Δ => some Δ
  | t :: ts, d :: ds, Δ => (tgS t d Δ).bind fun Δ1 => tgSs ts ds Δ1
  | _, _, _ => none
end
mutual
def tgR : Tg → D → DS → DS
  | .nm i, d, Δ => Δ.set i (some d)
  | .tp ts, .tup ds, Δ => tgRs ts ds Δ
  | .tp ts, .lst ds, Δ => tgRs ts ds Δ
  | .tp _, _, Δ => Δ
def tgRs : List Tg → List D → DS → DS
  | t :: ts, d :: ds, Δ => tgRs ts ds (tgR t d Δ)
  | _, _, Δ => Δ
end
mutual
def fitT : Tg → D → Bool
  | .nm _, _ => true
  | .tp ts, .tup ds => fitTs ts ds
  | .tp ts, .lst ds => fitTs ts ds
  | .tp _, _ => false
def fitTs : List Tg → List D → Bool
  | [], [] => true
  | t :: ts, d :: ds => fitT t d && fitTs ts ds
  | _, _ => false
end
/-- a target, whatever comes -/
def GT (X : Cx) (tg : Expr) (t : Tg) (sl : List Nat) : Prop := ∀ d Δ, fitT t d = true → GdD X tg d Δ (tgR t d Δ) sl
def GTs (X : Cx) (tgs : List Expr) (ts : List Tg) (sl : List Nat) : Prop := ∀ ds Δ, fitTs ts ds = true → GdsD X tgs ds Δ (tgRs ts ds Δ) sl
theorem fitTs_len : ∀ {ts : List Tg} {ds : List D}, fitTs ts ds = true → ds.length = ts.length
  | [], [], _ => rfl
  | t :: ts, d :: ds, h => by
    unfold fitTs at h
    rw [List.length_cons, List.length_cons, fitTs_len (Bool.and_eq_true_iff.mp h).2]
  | [], _ :: _, h => by unfold fitTs at h; cases h
  | _ :: _, [], h => by unfold fitTs at h; cases h
section
variable {X : Cx} {tg : Expr} {tgs : List Expr} {x : Str} {pos : Pos} {sl sl2 : List Nat} {t : Tg} {ts : List Tg}
theorem g_name {i : Nat} (hN : X.N.Nodup) (hi : X.N[i]? = some x) (hx : Loc X.env.scope x) (hf : X.fn x = true ∨ X.env.scope.names.lookup x = some .local) : GT X (.Name x pos) (.nm i) [i] := fun d Δ _ => by
  unfold tgR
  exact gd_name hN hi hx hf
theorem gs_nil : GTs X [] [] [] := fun ds Δ h => by
  cases ds with
  | nil => unfold tgRs; exact gds_nil
  | cons _ _ => unfold fitTs at h; cases h
theorem gs_cons (h1 : GT X tg t sl) (h2 : GTs X tgs ts sl2) (hs : (assignEach (tg :: tgs) X.env).map (·.2) = assign tg X.env :: (assignEach tgs X.env).map (·.2) := by rfl) : GTs X (tg :: tgs) (t :: ts) (sl ++ sl2) := fun ds Δ h => by
  cases ds with
  | nil => unfold fitTs at h; cases h
  | cons d ds =>
    unfold fitTs at h
    obtain ⟨a, c⟩ := Bool.and_eq_true_iff.mp h
    unfold tgRs
    exact gds_cons (h1 d Δ a) (h2 ds _ c) hs
theorem g_tup {n : Nat} {kt : Nat} (hc : X.calm = true) (h : GTs X tgs ts sl) (hl : ts.length = n) (hn : (assignEach tgs X.env).length = n := by rfl) (hst : (assignEach tgs X.env).findIdx? (·.1) = none := by rfl) : GT X (.Tuple tgs kt pos) (.tp ts) sl := fun d Δ q => by
  cases d with
  | tup ds =>
    unfold fitT at q
    unfold tgR
    exact gd_tup hc (h ds Δ q) (by rw [fitTs_len q]; exact hl) hn hst
  | lst ds =>
    unfold fitT at q
    unfold tgR
    exact gd_lst hc (h ds Δ q) (by rw [fitTs_len q]; exact hl) hn hst
  | _ => unfold fitT at q; cases q
end
mutual
theorem tg_rel {ρ : Nat → Addr} {b : Bool} {M0 M : Store} : ∀ {t : Tg} {d : D} {Δ Δ' : List Sl} {Δr : DS}, Rel ρ an b M0 Δ Δr M → tgS t d Δ = some Δ' → fitT t (rn ρ d) = true ∧ Rel ρ an b M0 Δ' (tgR t (rn ρ d) Δr) M
  | .nm i, d, Δ, Δ', Δr, r, h => by
    unfold tgS at h
    cases h
    unfold fitT tgR
    exact ⟨rfl, r.setV i d⟩
  | .tp ts, d, Δ, Δ', Δr, r, h => by
    cases d with
    | tup ds =>
      unfold tgS at h
      rw [rn_tup]
      unfold fitT tgR
      exact tgs_rel r h
    | lst ds =>
      unfold tgS at h
      rw [rn_lst]
      unfold fitT tgR
      exact tgs_rel r h
    | _ => unfold tgS at h; cases h
theorem tgs_rel {ρ : Nat → Addr} {b : Bool} {M0 M : Store} : ∀ {ts : List Tg} {ds : List D} {Δ Δ' : List Sl} {Δr : DS}, Rel ρ an b M0 Δ Δr M → tgSs ts ds Δ = some Δ' → fitTs ts (rnL ρ ds) = true ∧ Rel ρ an b M0 Δ' (tgRs ts (rnL ρ ds) Δr) M
  | [], [], Δ, Δ', Δr, r, h => by
    unfold tgSs at h
    cases h
    unfold rnL fitTs tgRs
    exact ⟨rfl, r⟩
  | t :: ts, d :: ds, Δ, Δ', Δr, r, h => by
    unfold tgSs at h
    obtain ⟨Δ1, h1, h2⟩ := Option.bind_eq_some_iff.mp h
    obtain ⟨a1, a2⟩ := tg_rel r h1
    obtain ⟨b1, b2⟩ := tgs_rel a2 h2
    unfold rnL fitTs tgRs
    exact ⟨by rw [a1, b1]; rfl, b2⟩
  | [], _ :: _, _, _, _, _, h => by unfold tgSs at h; cases h
  | _ :: _, [], _, _, _, _, h => by unfold tgSs at h; cases h
end
/-! ### what is gone through -/
section
variable {γ : Nat → Addr} {X : Cx} {a c e e2 tg : Expr} {es rest elts : List Expr} {pos p tpos : Pos} {x : Str} {s t : SE} {kk : Nat}
/-- a list, a tuple, a text -/
def iAny (K : PySem.W.Frag) (te : TE) : TI := fun σ H R => te σ H fun v H1 => (∃ l, v = .ref l ∧ (∃ xs, SqL K H1 l xs) ∧ R (Itl K l) H1) ∨ (∃ l, v = .ref l ∧ (∃ xs, SqT K H1 l xs) ∧ R (Itt K l) H1) ∨ ∃ z, v = .str z ∧ R (Its z) H1
theorem pi_dyn {te : TE} (he : PE X e te) : PI X tg e (iAny X.K te) := by
  constructor
  intro pins s σ H R I h
  refine thn (he.run pins s σ H _ I h) ?_
  rintro v s1 ⟨w, H1, I1, r1, q1⟩
  rcases q1 with ⟨l, rfl, ⟨xs, hq⟩, q⟩ | ⟨l, rfl, ⟨xs, hq⟩, q⟩ | ⟨z, rfl, q⟩
  · cases r1
    obtain ⟨its, rv, pl, _⟩ := I1.list hq
    refine wpAny_pyIter_list pl.isList ⟨_, [_], _, _, H1, rfl, I1.kept (t' := s1.toks) (fun b o e => Heap.get?_push_of_some _ e), turn_list l _, ⟨_, Heap.get?_push_size _ rfl, rfl, rfl⟩, ?_, q⟩
    intro b hb
    obtain rfl : b = s1.heap.objs.size := by simpa using hb
    exact I1.fpOk (Nat.le_refl _) (I1.hok.fresh (Nat.le_refl _))
  · cases r1
    obtain ⟨its, rv, pl, _⟩ := I1.tuple hq
    refine wpAny_pyIter_tuple (show s1.heap.IsTuple l its.toArray from pl) ⟨_, [_], _, _, H1, rfl, I1.kept (t' := s1.toks) (fun b o e => Heap.get?_push_of_some _ e), turn_tuple l _, ⟨_, Heap.get?_push_size _ rfl, rfl, rfl⟩, ?_, q⟩
    intro b hb
    obtain rfl : b = s1.heap.objs.size := by simpa using hb
    exact I1.fpOk (Nat.le_refl _) (I1.hok.fresh (Nat.le_refl _))
  · obtain ⟨t, rfl⟩ := r1
    cases ha : z.cps.all (· < 128) with
    | false => exact wpAny_pyIter_wide ha (pi_one (tk := s1.toks) I1 _ (turn_str _ z t "str_iterator" (.inr rfl)) ⟨_, Heap.get?_push_size _ rfl, rfl, rfl⟩ q)
    | true => exact wpAny_pyIter_ascii ha (pi_one (tk := s1.toks) I1 _ (turn_str _ z t "str_ascii_iterator" (.inl rfl)) ⟨_, Heap.get?_push_size _ rfl, rfl, rfl⟩ q)
def itO : D → Option (List D)
  | .str z => some (signs z)
  | d => seqV d
def aIt (s : SE) : SA := fun Δ => (s Δ).bind fun d => ofO (itO d)
theorem n_any (h : IE γ X e s) : II γ X tg e (aIt s) := .mk fun b u M0 Δ Δr M n k S w F H σ R hS ok post =>
  semI_of (pi_dyn pe_sem) (h.go b u M0 Δ Δr M n (fun d M1 => ∃ ds, ((d = .lst ds ∨ d = .frl ds) ∨ d = .tup ds ∨ ∃ z, d = .str z ∧ ds = signs z) ∧ k ds M1) S ((wpB_bind.1 w).mono fun d n1 w1 M1 A1 => by
    obtain ⟨ds, h1, h2⟩ := wpB_ofO w1
    have hk := h2 M1 A1
    unfold itO at h1
    split at h1
    · cases h1
      rw [rn_signs] at hk
      exact ⟨_, .inr (.inr ⟨_, rn_str _, rfl⟩), hk⟩
    · unfold seqV at h1
      split at h1
      · cases h1; exact ⟨_, .inr (.inl (rn_tup _)), hk⟩
      · cases h1; exact ⟨_, .inl (.inl (rn_lst _)), hk⟩
      · cases h1; exact ⟨_, .inl (.inr (rn_frl _)), hk⟩
      · cases h1) F H σ _ hS ok fun d M1 F1 H1 v ⟨ds, ed, hk⟩ st ok1 i => by
    rcases ed with (rfl | rfl) | rfl | ⟨z, rfl, rfl⟩
    · obtain ⟨q, vs, e, hq, il⟩ := is_lst.1 i
      exact .inl ⟨q, e, ⟨vs, SqL.of (ok1.lst hq)⟩, post ds M1 F1 H1 _ hk st ok1 (rep_list hq il)⟩
    · obtain ⟨q, vs, e, hq, il⟩ := is_frl.1 i
      exact .inl ⟨q, e, ⟨vs, ok1.sqL hq⟩, post ds M1 F1 H1 _ hk st ok1 (rep_frl hq il)⟩
    · obtain ⟨q, vs, e, hq, il⟩ := is_tup.1 i
      exact .inr (.inl ⟨q, e, ⟨vs, ok1.sqT hq⟩, post ds M1 F1 H1 _ hk st ok1 (rep_tup hq il)⟩)
    · exact .inr (.inr ⟨z, is_str.1 i, post _ M1 F1 H1 _ hk st ok1 rep_str⟩))
theorem rn_rng {ρ : Nat → Addr} (lo : Int) (m : Nat) : rnL ρ (rngD lo m) = rngD lo m := by
  unfold rngD
  rw [rnL_map, List.map_map]
  exact List.map_congr_left fun i _ => rn_int _
def inR (j : Int) : Bool := nsm 4611686018427387903 j
theorem inR_is {j : Int} (h : inR j = true) : -(2 ^ 62) ≤ j ∧ j < 2 ^ 62 := by
  have := nsm_is h
  constructor <;> omega
def rg1 (d : D) : Option (List D) := (intOf d).bind fun j => if inR j = true then some (rngD 0 j.toNat) else none
def aRg1 (s : SE) : SA := fun Δ => (s Δ).bind fun d => ofO (rg1 d)
theorem n_rg1 (hg : Gl X "range") (hm : X.mg "range" = none) (h : IE γ X e s) (hs : starEach [e] X.env = [(false, eval e X.env)] := by rfl) : II γ X tg (.Call (.Name "range" p) [e] [] pos) (aRg1 s) := .mk fun b u M0 Δ Δr M n k S w =>
  it_range1 hg hm (h.go b u M0 Δ Δr M n _ S ((wpB_bind.1 w).mono fun d n1 w1 M1 A1 => by
    obtain ⟨ds, h1, h2⟩ := wpB_ofO w1
    obtain ⟨j, h3, h4⟩ := Option.bind_eq_some_iff.mp h1
    split at h4
    · rename_i hj
      cases h4
      have hk := h2 M1 A1
      rw [rn_rng] at hk
      rw [intOf_is h3, rn_int]
      exact ⟨j, rfl, inR_is hj, hk⟩
    · cases h4)) hs
theorem rn_enum {ρ : Nat → Addr} (ds : List D) : rnL ρ (enumD ds) = enumD (rnL ρ ds) := by
  unfold enumD
  rw [rnL_map, rnL_map, List.map_map, List.zipIdx_map, List.map_map]
  refine List.map_congr_left fun q _ => ?_
  show rn ρ (.tup [.int (q.2 : Nat), q.1]) = .tup [.int (q.2 : Nat), rn ρ q.1]
  rw [rn_tup]
  unfold rnL
  rw [rn_int]
  unfold rnL
  unfold rnL
  rfl
theorem rn_zip {ρ : Nat → Addr} (ds es : List D) : rnL ρ (zipD ds es) = zipD (rnL ρ ds) (rnL ρ es) := by
  unfold zipD
  rw [rnL_map, rnL_map, rnL_map, List.map_map, List.zip_map, List.map_map]
  refine List.map_congr_left fun q _ => ?_
  show rn ρ (.tup [q.1, q.2]) = .tup [rn ρ q.1, rn ρ q.2]
  rw [rn_tup]
  unfold rnL
  unfold rnL
  unfold rnL
  rfl
def aEnum (s : SE) : SA := fun Δ => (s Δ).bind fun d => ofO ((lsV d).map enumD)
def zip2 : D → D → Option (List D)
  | .lst xs, .lst ys => some (zipD xs ys)
  | .tup xs, .tup ys => some (zipD xs ys)
  | _, _ => none
def aZip (s t : SE) : SA := fun Δ => (s Δ).bind fun d => (t Δ).bind fun c => ofO (zip2 d c)
theorem n_zip (hg : Gl X "zip") (hm : X.mg "zip" = none) (h : IE γ X e s) (h2 : IE γ X e2 t) (hs : starEach [e, e2] X.env = (false, eval e X.env) :: starEach [e2] X.env := by rfl) (hs2 : starEach [e2] X.env = [(false, eval e2 X.env)] := by rfl) (hpl : (backTo pos (starEach [e2] X.env)).any (·.1) = false := by rfl) : II γ X (.Tuple elts kk tpos) (.Call (.Name "zip" p) [e, e2] [] pos) (aZip s t) := .mk fun b u M0 Δ Δr M n k S w =>
  it_zip hg hm (h.go b u M0 Δ Δr M n _ S ((wpB_bind.1 w).mono fun d n1 w1 M1 A1 => h2.go b u M0 Δ Δr M1 n1 _ (S.aft A1) ((wpB_bind.1 w1).mono fun c n2 w2 M2 A2 => by
    obtain ⟨ds, h1, h2⟩ := wpB_ofO w2
    have hk := h2 M2 (A1.trans A2)
    unfold zip2 at h1
    split at h1
    · cases h1
      rw [rn_zip] at hk
      exact ⟨_, _, .inl ⟨rn_lst _, rn_lst _⟩, hk⟩
    · cases h1
      rw [rn_zip] at hk
      exact ⟨_, _, .inr ⟨rn_tup _, rn_tup _⟩, hk⟩
    · cases h1))) hs hs2 hpl
/-! ### list comprehensions -/
structure ITs (γ : Nat → Addr) (X : Cx) (ifs : List Expr) (s : SB) : Prop where
  go : ∀ b u M0 Δ Δr M n (k : BK), SI γ b u M0 Δ Δr M n → wpB b n (s Δ) (fun d n' => ∀ M', Aft b u M M' n' → k d M') → TsD X ifs Δr M k
def tYes : SB := fun _ => .ret true
theorem ts_nil : ITs γ X [] tYes := .mk fun b u M0 Δ Δr M n k S w => w M S.here
theorem ts_one {s : SB} (h : IT γ X e s) : ITs γ X [e] s := .mk fun b u M0 Δ Δr M n k S w => h.go b u M0 Δ Δr M n k S w
def lcP (tg : Tg) (t : SB) (elt : SE) (Δ : List Sl) : List D → Pg (List D)
  | [] => .ret []
  | d :: ds => (ofO (tgS tg d Δ)).bind fun Δ1 => (t Δ1).bind fun c => if c = true then (elt Δ1).bind fun r => (lcP tg t elt Δ ds).bind fun rs => .ret (r :: rs) else lcP tg t elt Δ ds
def aLc (tg : Tg) (vs : List Nat) (it : SA) (t : SB) (elt : SE) : SA := fun Δ => (it Δ).bind fun ds => if ds.length ≤ lim then lcP tg t elt (wipeS Δ vs) ds else .fail
theorem lc_rd {scope : Scope} {elt iter : Expr} {ifs : List Expr} {vs sl : List Nat} {tgt : Tg} {it : SA} {tb : SB} {se : SE} {b : Bool} {u : Addr × Addr} {M0 M : Store} {Δ : List Sl} {Δr : DS} {n : Nat} {ka : AK}
    (hI : II γ X tg iter it) (hsl : ∀ j ∈ sl, j ∈ vs) (hG : ∀ s H C cl fp, GT (Blk X scope s H C cl fp) tg tgt sl) (hT : ∀ s H C cl fp, ITs γ (Blk X scope s H C cl fp) ifs tb) (hE : ∀ s H C cl fp, IE γ (Blk X scope s H C cl fp) elt se)
    (S : SI γ b u M0 Δ Δr M n) (w : wpB b n (aLc tgt vs it tb se Δ) fun ds n' => ∀ M', Aft b u M M' n' → ka (rnL (rho γ u) ds) M') : LcP X scope elt tg iter ifs vs Δr M ka := by
  refine hI.go b u M0 Δ Δr M n _ S ((wpB_bind.1 w).mono fun ds n1 w1 M1 A1 => ?_)
  split at w1
  · rename_i hl
    refine ⟨fun i acc M' => ∃ n', Aft b u M M' n' ∧ acc.length ≤ i ∧ wpB b n' (lcP tgt tb se (wipeS Δ vs) (ds.drop i)) fun rs n2 => ∀ M2, Aft b u M M2 n2 → ka (acc ++ rnL (rho γ u) rs) M2, ⟨n1, A1, Nat.le_refl _, by rw [List.drop_zero]; exact w1⟩, ?_, ?_⟩
    · rintro i d acc M' hd ⟨n', A, hlen, w2⟩
      rw [rnL_get] at hd
      obtain ⟨d0, hd0, rfl⟩ := Option.map_eq_some_iff.mp hd
      have hi := (List.getElem?_eq_some_iff.mp hd0).1
      have hdr : ds.drop i = d0 :: ds.drop (i + 1) := by
        rw [List.drop_eq_getElem_cons hi]
        congr 1
        exact (List.getElem?_eq_some_iff.mp hd0).2
      rw [hdr] at w2
      obtain ⟨Δ1, h1, w3⟩ := wpB_ofO (wpB_bind.1 w2)
      have S2 : Rel (rho γ u) u.2 b M0 (wipeS Δ vs) (wipeD Δr vs) M' := (S.rel.keep A.keep).wipe vs
      obtain ⟨f1, r1⟩ := tg_rel S2 h1
      have S3 : SI γ b u M0 Δ1 (tgR tgt (rn (rho γ u) d0) (wipeD Δr vs)) M' n' := ⟨r1, A.urn, S.k0.trans A.keep⟩
      refine ⟨by rw [lim_eq]; omega, _, sl, hsl, fun s H C cl fp => hG s H C cl fp _ _ f1, (fun c M2 => ∃ n2, Aft b u M' M2 n2 ∧ wpB b n2 (if c = true then (se Δ1).bind fun r => (lcP tgt tb se (wipeS Δ vs) (ds.drop (i + 1))).bind fun rs => .ret (r :: rs) else lcP tgt tb se (wipeS Δ vs) (ds.drop (i + 1))) fun rs n2 => ∀ M2, Aft b u M M2 n2 → ka (acc ++ rnL (rho γ u) rs) M2), fun s H C cl fp => ?_, ?_⟩
      · exact (hT s H C cl fp).go b u M0 Δ1 _ M' n' _ S3 ((wpB_bind.1 w3).mono fun c n2 w4 M2 A2 => ⟨n2, A2, w4⟩)
      · rintro c M2 ⟨n2, A2, w4⟩
        have S4 := S3.aft A2
        cases c with
        | true =>
          rw [if_pos rfl] at w4 ⊢
          refine ⟨fun r M3 => ∃ r0 n3, r = rn (rho γ u) r0 ∧ Aft b u M2 M3 n3 ∧ wpB b n3 ((lcP tgt tb se (wipeS Δ vs) (ds.drop (i + 1))).bind fun rs => .ret (r0 :: rs)) fun rs n2 => ∀ M2, Aft b u M M2 n2 → ka (acc ++ rnL (rho γ u) rs) M2, fun s H C cl fp => ?_, ?_⟩
          · exact (hE s H C cl fp).go b u M0 Δ1 _ M2 n2 _ S4 ((wpB_bind.1 w4).mono fun r n3 w5 M3 A3 => ⟨r, n3, rfl, A3, w5⟩)
          · rintro r M3 ⟨r0, n3, rfl, A3, w5⟩
            refine ⟨n3, (A.trans A2).trans A3, by rw [List.length_append, List.length_singleton]; omega, (wpB_bind.1 w5).mono fun rs n4 w6 M4 A4 => ?_⟩
            have w7 := w6 M4 A4
            unfold rnL at w7
            rw [List.append_assoc]
            exact w7
        | false =>
          rw [if_neg Bool.false_ne_true] at w4 ⊢
          exact ⟨n2, A.trans A2, by omega, w4⟩
    · rintro acc M' ⟨n', A, hlen, w2⟩
      rw [rnL_len, List.drop_length] at w2
      have w3 := w2 M' A
      unfold rnL at w3
      rw [List.append_nil] at w3
      exact w3
  · exact w1.elim
theorem l_lc {scope : Scope} {own : List (Str × Nat)} {elt iter : Expr} {ifs : List Expr} {sl : List Nat} {tgt : Tg} {it : SA} {tb : SB} {se : SE} (hc : X.calm = true) (hN : X.N.Nodup) (ok : BlkOk X.N X.env.scope scope own) (hl : ifs.length ≤ 1) (hI : II γ X tg iter it) (hsl : ∀ j ∈ sl, j ∈ own.map (·.2))
    (hG : ∀ s H C cl fp, GT (Blk X scope s H C cl fp) tg tgt sl) (hT : ∀ s H C cl fp, ITs γ (Blk X scope s H C cl fp) ifs tb) (hE : ∀ s H C cl fp, IE γ (Blk X scope s H C cl fp) elt se)
    (hs : ∀ x, foldedSetIterable iter X.env x = pure x := by intro _; rfl) : IL γ X (.ListComp elt [⟨tg, iter, ifs, 0⟩] scope pos) (aLc tgt (own.map (·.2)) it tb se) := .mk fun b u M0 Δ Δr M n k S w =>
  el_lc hc hN ok hl (lc_rd hI hsl hG hT hE S w) hs
end
end DL
end
section
set_option Elab.async false
set_option linter.all false
set_option maxRecDepth 100000
namespace DL
open PySem L2 PyProof.Rows
/-! ### what stands in a slot -/
def SlIs (ρ : Nat → Addr) (b : Bool) (M0 M M' : Store) : Sl → D → Prop
  | .e, _ => False
  | .v d, dr => dr = rn ρ d
  | .w _, _ => False
  | .o m, dr => ∃ q, dr = .cell q ∧ M q = none ∧ M' q = some (rnM ρ m) ∧ M0 q = none ∧ (b = true → q ≠ ρ 0) ∧ (∀ C fs ds, m ≠ .ins C fs ds)
theorem KeepB.none {b : Bool} {u q : Addr} {M0 M : Store} {n : Nat} (k : KeepB b u M0 M) (U : UrnB b M u n) (h : M q = none) : M0 q = none ∧ (b = true → q ≠ u) := by
  have hq : b = true → q ≠ u := fun hb e => by
    subst e
    exact (U hb).some h
  refine ⟨?_, hq⟩
  cases e : M0 q with
  | none => rfl
  | some m => rw [k q m hq e] at h; cases h
section
variable {ρ : Nat → Addr} {b : Bool} {M0 M M' : Store} {Δ : List Sl} {Δr : DS}
theorem Rel.put (r : Rel ρ an b M0 Δ Δr M) (K : KeepB b (ρ 0) M M') {sl : Sl} {dr : D} (h : SlIs ρ b M0 M M' sl dr) (i : Nat) : Rel ρ an b M0 (Δ.set i sl) (Δr.set i (some dr)) M' := by
  cases sl with
  | e => exact h.elim
  | w d => exact h.elim
  | v d => cases h; exact (r.keep K).setV i d
  | o m =>
    obtain ⟨q, rfl, h1, h2, h3, h4, h5⟩ := h
    refine ⟨by rw [List.length_set, List.length_set]; exact r.len, fun j c h => ?_, fun j m' h => ?_, fun j l m1 m2 q' n g1 g2 g3 g4 => ?_, fun j c h => ?_⟩
    · rcases set_get h with ⟨rfl, hi, e⟩ | ⟨hn, h⟩
      · cases e
      · rw [List.getElem?_set_ne (Ne.symm hn)]
        exact r.v j c h
    · rcases set_get h with ⟨rfl, hi, e⟩ | ⟨hn, h⟩
      · cases e
        exact ⟨q, List.getElem?_set_self (by rw [← r.len]; exact hi), h2, h3, h4, fun C fs ds e => (h5 C fs ds e).elim⟩
      · rw [List.getElem?_set_ne (Ne.symm hn)]
        exact (r.keep K).o j m' h
    · have old : ∀ (j : Nat) (m' : MO), Δ[j]? = some (Sl.o m') → Δr[j]? ≠ some (some (D.cell q)) := fun j m' g e => by
        obtain ⟨q2, e1, e2, _⟩ := r.o j m' g
        rw [e1] at e
        cases e
        rw [h1] at e2
        cases e2
      rcases set_get g1 with ⟨e1, hi, _⟩ | ⟨hn1, h1'⟩
      · subst e1
        rw [List.getElem?_set_self (by rw [← r.len]; exact hi)] at g3
        cases g3
        rcases set_get g2 with ⟨e2, _, _⟩ | ⟨hn2, h2'⟩
        · exact n e2.symm
        · rw [List.getElem?_set_ne (Ne.symm hn2)] at g4
          exact old l m2 h2' g4
      · rw [List.getElem?_set_ne (Ne.symm hn1)] at g3
        rcases set_get g2 with ⟨e2, hi, _⟩ | ⟨hn2, h2'⟩
        · subst e2
          rw [List.getElem?_set_self (by rw [← r.len]; exact hi)] at g4
          cases g4
          exact old j m1 h1' g3
        · rw [List.getElem?_set_ne (Ne.symm hn2)] at g4
          exact r.inj j l m1 m2 q' n h1' h2' g3 g4
    · rcases set_get h with ⟨rfl, hi, e⟩ | ⟨hn, h⟩
      · cases e
      · rw [List.getElem?_set_ne (Ne.symm hn)]
        exact r.w j c h
theorem Rel.upd (r : Rel ρ an b M0 Δ Δr M) {i : Nat} {q : Addr} {m m' : MO} (h : Δ[i]? = some (.o m)) (hq : Δr[i]? = some (some (.cell q))) (hI : ∀ C fs ds, m' = .ins C fs ds → ∃ C' fs' ds', m = .ins C' fs' ds') : Rel ρ an b M0 (Δ.set i (.o m')) Δr (mup M q (rnM ρ m')) := by
  have hi : i < Δ.length := (List.getElem?_eq_some_iff.mp h).1
  refine ⟨by rw [List.length_set]; exact r.len, fun j c g => ?_, fun j m2 g => ?_, fun j l m1 m2 q' n g1 g2 g3 g4 => ?_, fun j c g => ?_⟩
  · rcases set_get g with ⟨rfl, _, e⟩ | ⟨hn, g⟩
    · cases e
    · exact r.v j c g
  · rcases set_get g with ⟨rfl, _, e⟩ | ⟨hn, g⟩
    · cases e
      obtain ⟨q2, e1, e2, e3, e4, e5⟩ := r.o j m h
      rw [hq] at e1
      cases e1
      exact ⟨q, hq, mup_same, e3, e4, fun C fs ds e => by
        obtain ⟨C', fs', ds', z⟩ := hI C fs ds e
        exact e5 C' fs' ds' z⟩
    · obtain ⟨q2, e1, e2, e3, e4, e5⟩ := r.o j m2 g
      have z : q2 ≠ q := fun z => by
        subst z
        exact r.inj i j m m2 q2 (Ne.symm hn) h g hq e1
      exact ⟨q2, e1, by rw [mup_ne z]; exact e2, e3, e4, e5⟩
  · have w : ∀ {j : Nat} {m1 : MO}, (Δ.set i (.o m'))[j]? = some (.o m1) → ∃ m2, Δ[j]? = some (.o m2) := fun {j m1} g => by
      rcases set_get g with ⟨rfl, _, e⟩ | ⟨hn, g⟩
      · exact ⟨m, h⟩
      · exact ⟨m1, g⟩
    obtain ⟨n1, w1⟩ := w g1
    obtain ⟨n2, w2⟩ := w g2
    exact r.inj j l n1 n2 q' n w1 w2 g3 g4
  · rcases set_get g with ⟨rfl, _, e⟩ | ⟨hn, g⟩
    · cases e
    · exact r.w j c g
end
section
variable {γ : Nat → Addr} {b : Bool} {u : Addr × Addr} {M0 M M' : Store} {Δ : List Sl} {Δr : DS} {n n' : Nat}
theorem SI.put (S : SI γ b u M0 Δ Δr M n) (A : Aft b u M M' n') {sl : Sl} {dr : D} (h : SlIs (rho γ u) b M0 M M' sl dr) (i : Nat) : SI γ b u M0 (Δ.set i sl) (Δr.set i (some dr)) M' n' := ⟨S.rel.put A.keep h i, A.urn, S.k0.trans A.keep⟩
theorem SI.upd (S : SI γ b u M0 Δ Δr M n) {i : Nat} {q : Addr} {m m' : MO} (h : Δ[i]? = some (.o m)) (hq : Δr[i]? = some (some (.cell q))) (hI : ∀ C fs ds, m' = .ins C fs ds → ∃ C' fs' ds', m = .ins C' fs' ds' := by intro _ _ _ z; cases z) : SI γ b u M0 (Δ.set i (.o m')) Δr (mup M q (rnM (rho γ u) m')) n := by
  obtain ⟨q2, e1, e2, e3, e4, _⟩ := S.rel.o i m h
  rw [hq] at e1
  cases e1
  refine ⟨S.rel.upd h hq hI, fun hb => (S.urn hb).mup (e4 hb), fun r m1 hr e => ?_⟩
  have z : r ≠ q := fun z => by rw [z, e3] at e; cases e
  rw [mup_ne z]
  exact S.k0 r m1 hr e
theorem SI.own (S : SI γ b u M0 Δ Δr M n) {i : Nat} {m : MO} (h : Δ[i]? = some (.o m)) : ∃ q, Δr[i]? = some (some (.cell q)) ∧ M q = some (rnM (rho γ u) m) := by
  obtain ⟨q, e1, e2, _⟩ := S.rel.o i m h
  exact ⟨q, e1, e2⟩
end
/-! ### a value on its way to a slot -/
structure IO (γ : Nat → Addr) (X : Cx) (e : Expr) (s : List Sl → Pg Sl) : Prop where
  go : ∀ b u M0 Δ Δr M n (k : DK), SI γ b u M0 Δ Δr M n → wpB b n (s Δ) (fun sl n' => ∀ M' dr, Aft b u M M' n' → SlIs (rho γ u) b M0 M M' sl dr → k dr M') → EvD X e Δr M k
def oV (s : SE) : List Sl → Pg Sl := fun Δ => (s Δ).bind fun d => .ret (.v d)
def oL (s : SA) : List Sl → Pg Sl := fun Δ => (s Δ).bind fun ds => .ret (.o (.lst ds))
section
variable {γ : Nat → Addr} {X : Cx} {a c e e2 tg : Expr} {es rest : List Expr} {pos p apos : Pos} {x : Str} {s t : SE}
theorem IE.io (h : IE γ X e s) : IO γ X e (oV s) := .mk fun b u M0 Δ Δr M n k S w => h.go b u M0 Δ Δr M n k S ((wpB_bind.1 w).mono fun d n1 q M1 A1 => q M1 _ A1 rfl)
theorem IL.io {s : SA} (h : IL γ X e s) : IO γ X e (oL s) := .mk fun b u M0 Δ Δr M n k S w => EvL.cell (h.go b u M0 Δ Δr M n _ S ((wpB_bind.1 w).mono fun ds n1 q M1 A1 r hr => by
  have U := A1.urn
  obtain ⟨h0, hu⟩ := (S.k0.trans A1.keep).none U hr
  obtain ⟨hM, _⟩ := A1.keep.none U hr
  refine q _ _ ⟨fun r' m hr' e => ?_, fun hb => (U hb).mup (hu hb)⟩ ⟨r, rfl, hM, mup_same, h0, hu, fun _ _ _ z => by cases z⟩
  have z : r' ≠ r := fun z => by rw [z, hM] at e; cases e
  rw [mup_ne z]
  exact A1.keep r' m hr' e))
/-! ### expressions that change what is owned -/
abbrev SX := List Sl → Pg (D × List Sl)
structure IX (γ : Nat → Addr) (X : Cx) (e : Expr) (s : SX) : Prop where
  go : ∀ b u M0 Δ Δr M n (k : DK), SI γ b u M0 Δ Δr M n → wpB b n (s Δ) (fun r n' => ∀ M', SI γ b u M0 r.2 Δr M' n' → k (rn (rho γ u) r.1) M') → EvD X e Δr M k
def xE (s : SE) : SX := fun Δ => (s Δ).bind fun d => .ret (d, Δ)
theorem IE.ix (h : IE γ X e s) : IX γ X e (xE s) := .mk fun b u M0 Δ Δr M n k S w => h.go b u M0 Δ Δr M n k S ((wpB_bind.1 w).mono fun d n1 q M1 A1 => q M1 (S.aft A1))
def ownL (Δ : List Sl) (i : Nat) : Option (List D) := match Δ[i]? with
  | some (.o (.lst ds)) => some ds
  | _ => none
theorem ownL_is {Δ : List Sl} {i : Nat} {ds : List D} (h : ownL Δ i = some ds) : Δ[i]? = some (.o (.lst ds)) := by
  unfold ownL at h
  split at h
  · rename_i q
    cases h
    exact q
  · cases h
def xApp (i : Nat) (s : SX) : SX := fun Δ => (ofO (ownL Δ i)).bind fun _ => (s Δ).bind fun r => (ofO (ownL r.2 i)).bind fun ds => if ds.length < lim then .ret (.non, r.2.set i (.o (.lst (ds ++ [r.1])))) else .fail
def xPop (i : Nat) (s : SE) : SX := fun Δ => (ofO (ownL Δ i)).bind fun ds => (s Δ).bind fun y => (ofO (intOf y)).bind fun z => if inR z = true then (ofO (seqIndex? z ds.length)).bind fun j => (ofO ds[j]?).bind fun r => .ret (r, Δ.set i (.o (.lst (ds.eraseIdx j)))) else .fail
end
end DL
end
section
set_option Elab.async false
set_option linter.all false
set_option maxRecDepth 100000
namespace DL
open PySem L2 PyProof.Rows
inductive Out where
  | nx (Δ : List Sl) | rt (d : D) | bk (Δ : List Sl) | ct (Δ : List Sl)
abbrev ST := List Sl → Pg Out
def OutOk (γ : Nat → Addr) (b : Bool) (u : Addr × Addr) (M0 : Store) (ks : KS) : Out → Nat → Prop
  | .nx Δ, n => ∀ Δr M, SI γ b u M0 Δ Δr M n → ks.nx Δr M
  | .rt d, n => ∀ M, Aft b u M0 M n → ks.rt (rn (rho γ u) d) M
  | .bk Δ, n => ∀ Δr M, SI γ b u M0 Δ Δr M n → ks.bk Δr M
  | .ct Δ, n => ∀ Δr M, SI γ b u M0 Δ Δr M n → ks.ct Δr M
structure IS (γ : Nat → Addr) (X : Cx) (st : Stmt) (t : ST) : Prop where
  go : ∀ b u M0 Δ Δr M n (ks : KS), SI γ b u M0 Δ Δr M n → wpB b n (t Δ) (OutOk γ b u M0 ks) → StD X st Δr M ks
structure ISs (γ : Nat → Addr) (X : Cx) (st : List Stmt) (t : ST) : Prop where
  go : ∀ b u M0 Δ Δr M n (ks : KS), SI γ b u M0 Δ Δr M n → wpB b n (t Δ) (OutOk γ b u M0 ks) → SsD X st Δr M ks
section
variable {γ : Nat → Addr} {X : Cx} {a c e e2 tg : Expr} {es rest : List Expr} {pos p apos : Pos} {x : Str} {s t : SE} {st : Stmt} {sts body A B : List Stmt}
def tNil : ST := fun Δ => .ret (.nx Δ)
def tSeq (t r : ST) : ST := fun Δ => (t Δ).bind fun o => match o with
  | .nx Δ1 => r Δ1
  | o => .ret o
theorem b_nil : ISs γ X [] tNil := .mk fun b u M0 Δ Δr M n ks S w => ss_nil (w Δr M S)
theorem b_cons {t r : ST} (h : IS γ X st t) (h2 : ISs γ X sts r) : ISs γ X (st :: sts) (tSeq t r) := .mk fun b u M0 Δ Δr M n ks S w => by
  refine ss_cons (h.go b u M0 Δ Δr M n _ S ((wpB_bind.1 w).mono fun o n1 w1 => ?_))
  cases o with
  | nx Δ1 => exact fun Δr1 M1 S1 => h2.go b u M0 Δ1 Δr1 M1 n1 ks S1 w1
  | rt d => exact w1
  | bk Δ1 => exact w1
  | ct Δ1 => exact w1
theorem b_one {t : ST} (h : IS γ X st t) : ISs γ X [st] t := .mk fun b u M0 Δ Δr M n ks S w => ss_one (h.go b u M0 Δ Δr M n ks S w)
def tX (s : SX) : ST := fun Δ => (s Δ).bind fun r => .ret (.nx r.2)
def tRet (s : SE) : ST := fun Δ => (s Δ).bind fun d => .ret (.rt d)
theorem Aft.of0 {b : Bool} {u : Addr × Addr} {M0 M : Store} {Δ : List Sl} {Δr : DS} {n : Nat} (S : SI γ b u M0 Δ Δr M n) : Aft b u M0 M n := ⟨S.k0, S.urn⟩
theorem r_ret (h : IE γ X e s) : IS γ X (.Return (some e) pos) (tRet s) := .mk fun b u M0 Δ Δr M n ks S w => s_ret (h.go b u M0 Δ Δr M n _ S ((wpB_bind.1 w).mono fun d n1 w1 M1 A1 => w1 M1 (Aft.of0 (S.aft A1))))
def tIf (t : SB) (r q : ST) : ST := fun Δ => (t Δ).bind fun c => if c = true then r Δ else q Δ
theorem r_if {tb : SB} {r q : ST} (h : IT γ X e tb) (hA : ISs γ X A r) (hB : ISs γ X B q) : IS γ X (.If e A B pos) (tIf tb r q) := .mk fun b u M0 Δ Δr M n ks S w => s_if (h.go b u M0 Δ Δr M n _ S ((wpB_bind.1 w).mono fun c n1 w1 M1 A1 => by
  cases c with
  | true => exact hA.go b u M0 Δ Δr M1 n1 ks (S.aft A1) w1
  | false => exact hB.go b u M0 Δ Δr M1 n1 ks (S.aft A1) w1))
def tSet (i : Nat) (s : List Sl → Pg Sl) : ST := fun Δ => (s Δ).bind fun sl => .ret (.nx (Δ.set i sl))
theorem r_set {i : Nat} {s : List Sl → Pg Sl} {pos' : Pos} (hN : X.N.Nodup) (hi : X.N[i]? = some x) (hx : Loc X.env.scope x) (hf : X.fn x = true ∨ X.env.scope.names.lookup x = some .local) (h : IO γ X e s)
    (hs : swapsWith e (some (.Name x pos')) pos.line X.env = pure false := by rfl) : IS γ X (.Assign [.Name x pos'] e pos) (tSet i s) := .mk fun b u M0 Δ Δr M n ks S w => s_set hN hi hx hf (h.go b u M0 Δ Δr M n _ S ((wpB_bind.1 w).mono fun sl n1 w1 M1 dr A1 V => w1 _ M1 (S.put A1 V i))) hs
/-- x = [.. for ..]: frozen, or owned -/
theorem r_setLc {i : Nat} {y : Str} {py spos : Pos} {scope : Scope} {own : List (Str × Nat)} {elt iter : Expr} {ifs : List Expr} {sl : List Nat} {tgt : Tg} {it : SA} {tb : SB} {se : SE} (hc : X.calm = true) (hN : X.N.Nodup) (hy : X.N[i]? = some y) (hyl : X.env.scope.names.lookup y = some .local)
    (hsw : swapsWith (.ListComp elt [⟨tg, iter, ifs, 0⟩] scope pos) (some (.Name y py)) spos.line X.env = pure true) (ok : BlkOk X.N X.env.scope scope own) (hl : ifs.length ≤ 1) (hI : II γ X tg iter it) (hsl : ∀ j ∈ sl, j ∈ own.map (·.2))
    (hG : ∀ s H C cl fp, GT (Blk X scope s H C cl fp) tg tgt sl) (hT : ∀ s H C cl fp, ITs γ (Blk X scope s H C cl fp) ifs tb) (hE : ∀ s H C cl fp, IE γ (Blk X scope s H C cl fp) elt se)
    (hs : ∀ x, foldedSetIterable iter X.env x = pure x := by intro _; rfl) : IS γ X (.Assign [.Name y py] (.ListComp elt [⟨tg, iter, ifs, 0⟩] scope pos) spos) (tSet i (oV (cL (aLc tgt (own.map (·.2)) it tb se)))) := .mk fun b u M0 Δ Δr M n ks S w => by
  refine s_setLc hc hN hy hyl hsw ok hl (lc_rd hI hsl hG hT hE S ((wpB_bind.1 (wpB_bind.1 (wpB_bind.1 w))).mono fun ds n1 w1 M1 A1 => ?_)) hs
  have w2 := w1 (Δr.set i (some (rn (rho γ u) (.lst ds)))) M1 (S.put A1 (sl := .v (.lst ds)) rfl i)
  rw [rn_lst] at w2
  exact w2
def tPar (i j : Nat) (s t : List Sl → Pg Sl) : ST := fun Δ => (s Δ).bind fun d => (t Δ).bind fun c => .ret (.nx ((Δ.set i d).set j c))
theorem r_par {i j : Nat} {y : Str} {s t : List Sl → Pg Sl} {px py pt : Pos} {kt k2 pt2} (hc : X.calm = true) (hN : X.N.Nodup) (hi : X.N[i]? = some x) (hj : X.N[j]? = some y) (hij : i ≠ j) (hx : X.env.scope.names.lookup x = some .local) (hy : X.env.scope.names.lookup y = some .local)
    (hw : swappedStores [.Tuple [.Name x px, .Name y py] kt pt] (.Tuple [a, c] k2 pt2) X.env = pure (some [x, y])) (ha : IO γ X a s) (hcc : IO γ X c t) (hs : swapsWithSole [.Tuple [.Name x px, .Name y py] kt pt] (.Tuple [a, c] k2 pt2) pos.line X.env = pure false := by rfl)
    (h1 : starEach [a, c] X.env = (false, eval a X.env) :: starEach [c] X.env := by rfl) (h2 : starEach [c] X.env = [(false, eval c X.env)] := by rfl) :
    IS γ X (.Assign [.Tuple [.Name x px, .Name y py] kt pt] (.Tuple [a, c] k2 pt2) pos) (tPar i j s t) := .mk fun b u M0 Δ Δr M n ks S w =>
  s_par hc hN hi hj hij hx hy hw (ha.go b u M0 Δ Δr M n _ S ((wpB_bind.1 w).mono fun d n1 w1 M1 dr A1 V1 => hcc.go b u M0 Δ Δr M1 n1 _ (S.aft A1) ((wpB_bind.1 w1).mono fun d2 n2 w2 M2 dr2 A2 V2 => w2 _ M2 ((S.put A1 V1 i).put A2 V2 j)))) hs h1 h2
/-- target = value -/
def tAsg (t : Tg) (s : SX) : ST := fun Δ => (s Δ).bind fun r => (ofO (tgS t r.1 r.2)).bind fun Δ1 => .ret (.nx Δ1)
theorem r_asg {tgt : Tg} {sl : List Nat} {s : SX} (h : IX γ X e s) (hG : GT X tg tgt sl) (hs : swapsWithSole [tg] e pos.line X.env = pure false := by rfl) (hw : swappedStores [tg] e X.env = pure none := by rfl)
    (h1 : (assignEach [tg] X.env).map (·.2) = [assign tg X.env] := by rfl) : IS γ X (.Assign [tg] e pos) (tAsg tgt s) := .mk fun b u M0 Δ Δr M n ks S w => s_asg (h.go b u M0 Δ Δr M n _ S ((wpB_bind.1 w).mono fun r n1 w1 M1 S1 => by
  obtain ⟨Δ1, q1, w2⟩ := wpB_ofO (wpB_bind.1 w1)
  obtain ⟨f1, r1⟩ := tg_rel S1.rel q1
  exact ⟨_, sl, hG _ _ f1, w2 _ M1 ⟨r1, S1.urn, S1.k0⟩⟩)) hs hw h1
/-- x[i] = e of an owned list -/
def tPut (i : Nat) (s t : SE) : ST := fun Δ => (s Δ).bind fun y => (ofO (ownL Δ i)).bind fun ds => (t Δ).bind fun z => (ofO (intOf z)).bind fun n => (ofO (ixN ds.length n)).bind fun j => .ret (.nx (Δ.set i (.o (.lst (ds.set j y)))))
theorem rnL_set {ρ : Nat → Addr} (ds : List D) (j : Nat) (d : D) : rnL ρ (ds.set j d) = (rnL ρ ds).set j (rn ρ d) := by rw [rnL_map, rnL_map, List.map_set]
theorem r_put {i : Nat} {spos px : Pos} (hN : X.N[i]? = some x) (hv : Vis X.env.scope x) (hd : (x == ("__debug__" : Str)) = false) (hcd : (x == ("__classdict__" : Str)) = false) (h : IE γ X e s) (h2 : IE γ X c t)
    (hs : swapsWithSole [.Subscript (.Name x px) c spos] e pos.line X.env = pure false := by rfl) (hw : swappedStores [.Subscript (.Name x px) c spos] e X.env = pure none := by rfl) (h1 : (assignEach [.Subscript (.Name x px) c spos] X.env).map (·.2) = [assign (.Subscript (.Name x px) c spos) X.env] := by rfl)
    (ha : ∀ v, assign (.Subscript (.Name x px) c spos) X.env v = (do
      let ov ← holding [v] (eval (.Name x px) X.env)
      let iv ← holding [v, ov] (eval c X.env)
      standAt spos
      holding [v, ov, iv] (setItem ov iv v)
      release [v, ov, iv] []) := by intro _; rfl) : IS γ X (.Assign [.Subscript (.Name x px) c spos] e pos) (tPut i s t) := .mk fun b u M0 Δ Δr M n ks S w => by
  refine s_put (h.go b u M0 Δ Δr M n _ S ((wpB_bind.1 w).mono fun y n1 w1 M1 A1 => ?_)) hs hw h1 ha
  obtain ⟨ds, h0, w2⟩ := wpB_ofO (wpB_bind.1 w1)
  obtain ⟨q, hq, hM⟩ := S.own (ownL_is h0)
  refine ev_var hN hv hd hcd hq (h2.go b u M0 Δ Δr M1 n1 _ (S.aft A1) ((wpB_bind.1 w2).mono fun z n2 w3 M2 A2 => ?_))
  obtain ⟨m, h3, w4⟩ := wpB_ofO (wpB_bind.1 w3)
  obtain ⟨j, h4, w5⟩ := wpB_ofO (wpB_bind.1 w4)
  have S2 := (S.aft A1).aft A2
  obtain ⟨q', hq', hM'⟩ := S2.own (ownL_is h0)
  rw [hq] at hq'
  cases hq'
  rw [intOf_is h3, rn_int]
  refine ⟨q, _, m, j, rfl, rfl, hM', by rw [rnL_len]; exact h4, ?_⟩
  rw [← rnL_set]
  exact w5 Δr _ (S2.upd (m' := .lst (ds.set j y)) (ownL_is h0) hq)
/-! ### for -/
def forP (tg : Tg) (body : ST) : List D → List Sl → Pg Out
  | [], Δ => .ret (.nx Δ)
  | d :: ds, Δ => (ofO (tgS tg d Δ)).bind fun Δ1 => (body Δ1).bind fun o => match o with
    | .nx Δ2 => forP tg body ds Δ2
    | .ct Δ2 => forP tg body ds Δ2
    | .bk Δ2 => .ret (.nx Δ2)
    | .rt d => .ret (.rt d)
def tFor (tg : Tg) (it : SA) (body : ST) : ST := fun Δ => (it Δ).bind fun ds => forP tg body ds Δ
theorem r_for {iter : Expr} {tgt : Tg} {it : SA} {tb : ST} {sl : List Nat} (hp : PassesOwn (model X.prog X.w) X.A X.env X.xe) (hc : X.calm = true) (hI : II γ X tg iter it) (hG : GT X tg tgt sl) (hB : ISs γ X body tb)
    (hs : ∀ x, foldedSetIterable iter X.env x = pure x := by intro _; rfl) : IS γ X (.For tg iter body [] pos) (tFor tgt it tb) := .mk fun b u M0 Δ Δr M n ks S w => by
  refine s_for hp hc (hI.go b u M0 Δ Δr M n _ S ((wpB_bind.1 w).mono fun ds n1 w1 M1 A1 => ?_)) hs
  refine ⟨fun i Δ' M' => ∃ Δa n', SI γ b u M0 Δa Δ' M' n' ∧ wpB b n' (forP tgt tb (ds.drop i) Δa) (OutOk γ b u M0 ks), ⟨Δ, n1, S.aft A1, by rw [List.drop_zero]; exact w1⟩, ?_, ?_⟩
  · rintro i d Δ' M' hd ⟨Δa, n', S', w2⟩
    rw [rnL_get] at hd
    obtain ⟨d0, hd0, rfl⟩ := Option.map_eq_some_iff.mp hd
    have hi := (List.getElem?_eq_some_iff.mp hd0).1
    have hdr : ds.drop i = d0 :: ds.drop (i + 1) := by
      rw [List.drop_eq_getElem_cons hi]
      congr 1
      exact (List.getElem?_eq_some_iff.mp hd0).2
    rw [hdr] at w2
    obtain ⟨Δ1, q1, w3⟩ := wpB_ofO (wpB_bind.1 w2)
    obtain ⟨f1, r1⟩ := tg_rel S'.rel q1
    refine ⟨_, sl, hG _ _ f1, hB.go b u M0 Δ1 _ M' n' _ ⟨r1, S'.urn, S'.k0⟩ ((wpB_bind.1 w3).mono fun o n2 w4 => ?_)⟩
    cases o with
    | nx Δ2 => exact fun Δr2 M2 S2 => ⟨Δ2, n2, S2, w4⟩
    | ct Δ2 => exact fun Δr2 M2 S2 => ⟨Δ2, n2, S2, w4⟩
    | bk Δ2 => exact w4
    | rt d => exact w4
  · rintro Δ' M' ⟨Δa, n', S', w2⟩
    rw [rnL_len, List.drop_length] at w2
    exact w2 Δ' M' S'
/-! ### while -/
end
/-! ### what is owned, let go -/
def frzO : MO → D
  | .lst ds => .lst ds | .ins C fs ds => .ins C fs ds | .dct ks ds => .dct ks ds
theorem frzO_rn {ρ : Nat → Addr} (m : MO) : rn ρ (frzO m) = frzO (rnM ρ m) := by
  cases m with
  | lst ds => exact rn_lst ds
  | ins C fs ds => exact rn_ins C fs ds
  | dct ks ds => exact rn_dct ks ds
section
variable {K : PySem.W.Frag} {F H : Hp} {M : Store}
theorem frz_any (ok : Ok K F M H) {q : Addr} {m : MO} (hm : M q = some m) (nd : ∀ ks ds, m ≠ .dct ks ds) : ∃ F', Ok K F' (mdel M q) H ∧ Stp F M H F' (mdel M q) H ∧ Is K F' (frzO m) (.ref q) := by
  obtain ⟨hF, o, hH, hr⟩ := ok.mem q _ hm
  refine ⟨upd F q o, ⟨fun x w e => ?_, fun x m e => ?_⟩, ⟨same_new hF, fun x w e => ?_, fun x w e _ => e, fun x m n => ?_, fun x n => n⟩, ?_⟩
  · by_cases z : x = q
    · subst z; rw [upd_same] at e; cases e; exact .inl hH
    · rw [upd_ne z] at e; exact ok.sub x w e
  · by_cases z : x = q
    · rw [z, mdel_same] at e; cases e
    · rw [mdel_ne z] at e
      obtain ⟨g1, w, g2, g3⟩ := ok.mem x m e
      exact ⟨by rw [upd_ne z]; exact g1, w, g2, g3.mono (same_new hF)⟩
  · by_cases z : x = q
    · subst z; exact .inr (.inr (by rw [hm]; simp))
    · rw [upd_ne z] at e; exact .inl e
  · by_cases z : x = q
    · rw [z, mdel_same]
    · rw [mdel_ne z]; exact m
  · cases m with
    | lst ds =>
      obtain ⟨vs, rfl, il⟩ := hr
      exact is_lst.2 ⟨q, vs, rfl, upd_same, il.mono (same_new hF)⟩
    | ins C fs ds =>
      obtain ⟨dx, vs, rfl, l, il⟩ := hr
      exact is_ins.2 ⟨q, dx, vs, rfl, upd_same, l, il.mono (same_new hF)⟩
    | dct ks ds => exact absurd rfl (nd ks ds)
/-- a dict that is let go is locked -/
theorem frz_dct (ok : Ok K F M H) {q : Addr} {ks : List Key} {ds : List D} (hm : M q = some (.dct ks ds)) : ∃ u, H q = some u ∧ Mut (some u) ∧ ∀ od, ∃ F', Ok K F' (mdel M q) (upd H q (.frz od u)) ∧ Stp F M H F' (mdel M q) (upd H q (.frz od u)) ∧ Is K F' (.dct ks ds) (.ref q) := by
  obtain ⟨hF, o, hH, vs, rfl, l, il⟩ := ok.mem q _ hm
  refine ⟨_, hH, trivial, fun od => ⟨upd F q (.frz od (.dK (ks.zip vs))), ⟨fun x w e => ?_, fun x m e => ?_⟩, ⟨same_new hF, fun x w e => ?_, fun x w e n => ?_, fun x m n => ?_, fun x n => ?_⟩, ?_⟩⟩
  · by_cases z : x = q
    · subst z; rw [upd_same] at e ⊢; exact .inl e
    · rw [upd_ne z] at e ⊢; exact ok.sub x w e
  · by_cases z : x = q
    · rw [z, mdel_same] at e; cases e
    · rw [mdel_ne z] at e
      obtain ⟨g1, w, g2, g3⟩ := ok.mem x m e
      exact ⟨by rw [upd_ne z]; exact g1, w, by rw [upd_ne z]; exact g2, g3.mono (same_new hF)⟩
  · by_cases z : x = q
    · subst z; exact .inr (.inr (by rw [hm]; simp))
    · rw [upd_ne z] at e; exact .inl e
  · by_cases z : x = q
    · rw [z, hm] at n; cases n
    · rw [upd_ne z]; exact e
  · by_cases z : x = q
    · rw [z, mdel_same]
    · rw [mdel_ne z]; exact m
  · by_cases z : x = q
    · rw [z, upd_same]; simp
    · rw [upd_ne z]; exact n
  · exact is_dct.2 ⟨q, vs, od, rfl, upd_same, l, il.mono (same_new hF)⟩
theorem mo_dct (m : MO) : (∀ ks ds, m ≠ .dct ks ds) ∨ ∃ ks ds, m = .dct ks ds := by
  cases m with
  | dct ks ds => exact .inr ⟨ks, ds, rfl⟩
  | _ => exact .inl fun _ _ e => by cases e
end
section
variable {X : Cx} {Δ : DS} {M : Store} {ks : KS} {k : DK} {sts : List Stmt} {e : Expr}
theorem ev_frz1 (h : EvD X e Δ M fun d M1 => ∃ q m, d = .cell q ∧ M1 q = some m ∧ k (frzO m) (mdel M1 q)) : EvD X e Δ M k := fun F H σ Q hS ok post =>
  sem_lockP (h F H σ _ hS ok fun d M1 F1 H1 v ⟨q, m, ed, hm, hk⟩ st ok1 i => by
    subst ed
    rw [is_cell.1 i]
    rcases mo_dct m with nd | ⟨ks, ds, rfl⟩
    · obtain ⟨F', ok', st', iq⟩ := frz_any ok1 hm nd
      exact .inl (post _ _ F' H1 _ hk (st.trans st') ok' iq)
    · obtain ⟨u, hu, mu, g⟩ := frz_dct ok1 hm
      refine .inr ⟨q, u, hu, mu, fun od => ?_⟩
      obtain ⟨F', ok', st', iq⟩ := g od
      exact post _ _ F' _ _ hk (st.trans st') ok' iq)
end
section
variable {γ : Nat → Addr} {X : Cx} {sts : List Stmt} {x : Str} {pos px : Pos} {b : Bool} {u : Addr × Addr} {M0 M : Store} {Δ : List Sl} {Δr : DS} {n : Nat}
theorem SI.frz (S : SI γ b u M0 Δ Δr M n) {i : Nat} {q : Addr} {m : MO} (h : Δ[i]? = some (.o m)) (hq : Δr[i]? = some (some (.cell q))) : SI γ b u M0 (Δ.set i (.v (frzO m))) (Δr.set i (some (frzO (rnM (rho γ u) m)))) (mdel M q) n := by
  obtain ⟨q2, e1, e2, e3, e4, _⟩ := S.rel.o i m h
  rw [hq] at e1
  cases e1
  refine ⟨⟨by rw [List.length_set, List.length_set]; exact S.rel.len, fun j c g => ?_, fun j m2 g => ?_, fun j l m1 m2 q' n' g1 g2 g3 g4 => ?_, fun j c g => ?_⟩, fun hb => (S.urn hb).mdel (e4 hb), fun r m1 hr e => ?_⟩
  · rcases set_get g with ⟨rfl, hi, e⟩ | ⟨hn, g⟩
    · cases e
      rw [List.getElem?_set_self (by rw [← S.rel.len]; exact hi), frzO_rn]
    · rw [List.getElem?_set_ne (Ne.symm hn)]
      exact S.rel.v j c g
  · rcases set_get g with ⟨rfl, hi, e⟩ | ⟨hn, g⟩
    · cases e
    · rw [List.getElem?_set_ne (Ne.symm hn)]
      obtain ⟨q3, f1, f2, f3, f4, f5⟩ := S.rel.o j m2 g
      have z : q3 ≠ q := fun z => by
        subst z
        exact S.rel.inj i j m m2 q3 (Ne.symm hn) h g hq f1
      exact ⟨q3, f1, by rw [mdel_ne z]; exact f2, f3, f4, f5⟩
  · rcases set_get g1 with ⟨rfl, hi, e⟩ | ⟨hn1, h1'⟩
    · cases e
    · rcases set_get g2 with ⟨rfl, hi, e⟩ | ⟨hn2, h2'⟩
      · cases e
      · rw [List.getElem?_set_ne (Ne.symm hn1)] at g3
        rw [List.getElem?_set_ne (Ne.symm hn2)] at g4
        exact S.rel.inj j l m1 m2 q' n' h1' h2' g3 g4
  · rcases set_get g with ⟨rfl, hi, e⟩ | ⟨hn, g⟩
    · cases e
    · rw [List.getElem?_set_ne (Ne.symm hn)]
      exact S.rel.w j c g
  · have z : r ≠ q := fun z => by rw [z, e3] at e; cases e
    rw [mdel_ne z]
    exact S.k0 r m1 hr e
def frzS (i : Nat) (Δ : List Sl) : List Sl := match Δ[i]? with
  | some (.o m) => Δ.set i (.v (frzO m))
  | _ => Δ
/-- ahead of the rest, slot i is let go -/
def tFrz (i : Nat) (t : ST) : ST := fun Δ => t (frzS i Δ)
/-- return x, x owned -/
def tRetO (i : Nat) : ST := fun Δ => match Δ[i]? with
  | some (.o m) => .ret (.rt (frzO m))
  | some (.v d) => .ret (.rt d)
  | _ => .fail
theorem r_retO {i : Nat} (hN : X.N[i]? = some x) (hv : Vis X.env.scope x) (hd : (x == ("__debug__" : Str)) = false) (hcd : (x == ("__classdict__" : Str)) = false) : IS γ X (.Return (some (.Name x px)) pos) (tRetO i) := .mk fun b u M0 Δ Δr M n ks S w => by
  unfold tRetO at w
  split at w
  · rename_i m hm
    obtain ⟨q, hq, hM⟩ := S.own hm
    have S2 := S.frz hm hq
    refine s_ret (ev_frz1 (ev_var hN hv hd hcd hq ⟨q, _, rfl, hM, ?_⟩))
    have w1 := w (mdel M q) (Aft.of0 S2)
    rw [frzO_rn] at w1
    exact w1
  · rename_i d hm
    exact s_ret (ev_var hN hv hd hcd (S.rel.v i d hm) (w M (Aft.of0 S)))
  · exact w.elim
end
/-! ### a def -/
/-- which parameters are only looked at -/
def slOf : List Bool → List D → List Sl
  | true :: fl, d :: ds => .w d :: slOf fl ds
  | false :: fl, d :: ds => .v d :: slOf fl ds
  | [], ds => ds.map Sl.v
  | _ :: _, [] => []
def startS (fl : List Bool) (N : Nat) (ds : List D) : List Sl := slOf fl ds ++ List.replicate (N - ds.length) .e
def runF (fl : List Bool) (np N : Nat) (t : ST) (ds : List D) : Pg D := if ds.length = np then (t (startS fl N ds)).bind fun o => match o with
  | .nx _ => .ret .non
  | .rt d => .ret d
  | _ => .fail else .fail
theorem slOf_len : ∀ (fl : List Bool) (ds : List D), (slOf fl ds).length = ds.length
  | [], ds => by unfold slOf; rw [List.length_map]
  | true :: fl, d :: ds => by unfold slOf; rw [List.length_cons, List.length_cons, slOf_len fl ds]
  | false :: fl, d :: ds => by unfold slOf; rw [List.length_cons, List.length_cons, slOf_len fl ds]
  | true :: _, [] => by unfold slOf; rfl
  | false :: _, [] => by unfold slOf; rfl
theorem slOf_rel {ρ : Nat → Addr} {b : Bool} {M : Store} : ∀ {fl : List Bool} {ds drs : List D}, VwL ρ b M fl ds drs → (∀ (i : Nat) d, (slOf fl ds)[i]? = some (.v d) → drs[i]? = some (rn ρ d)) ∧ (∀ (i : Nat) d, (slOf fl ds)[i]? = some (.w d) → ∃ dr, drs[i]? = some dr ∧ Vw ρ b M d dr) ∧ ∀ (i : Nat) m, (slOf fl ds)[i]? ≠ some (.o m)
  | [], ds, drs, h => by
    unfold VwL at h
    subst h
    unfold slOf
    refine ⟨fun i d e => ?_, fun i d e => ?_, fun i m e => ?_⟩
    · rw [List.getElem?_map] at e
      obtain ⟨d', h1, e1⟩ := Option.map_eq_some_iff.mp e
      cases e1
      rw [rnL_get, h1]
      rfl
    · rw [List.getElem?_map] at e
      obtain ⟨d', h1, e1⟩ := Option.map_eq_some_iff.mp e
      cases e1
    · rw [List.getElem?_map] at e
      obtain ⟨d', h1, e1⟩ := Option.map_eq_some_iff.mp e
      cases e1
  | true :: fl, d :: ds, dr :: drs, h => by
    unfold VwL at h
    obtain ⟨a1, a2, a3⟩ := slOf_rel h.2
    unfold slOf
    refine ⟨fun i c e => ?_, fun i c e => ?_, fun i m e => ?_⟩
    · cases i with
      | zero => cases e
      | succ i => exact a1 i c e
    · cases i with
      | zero => cases e; exact ⟨dr, rfl, h.1⟩
      | succ i => exact a2 i c e
    · cases i with
      | zero => cases e
      | succ i => exact a3 i m e
  | false :: fl, d :: ds, dr :: drs, h => by
    unfold VwL at h
    obtain ⟨a1, a2, a3⟩ := slOf_rel h.2
    unfold slOf
    refine ⟨fun i c e => ?_, fun i c e => ?_, fun i m e => ?_⟩
    · cases i with
      | zero => cases e; show some dr = _; rw [h.1]
      | succ i => exact a1 i c e
    · cases i with
      | zero => cases e
      | succ i => exact a2 i c e
    · cases i with
      | zero => cases e
      | succ i => exact a3 i m e
  | true :: _, [], _, h => by unfold VwL at h; exact h.elim
  | false :: _, [], _, h => by unfold VwL at h; exact h.elim
  | true :: _, _ :: _, [], h => by unfold VwL at h; exact h.elim
  | false :: _, _ :: _, [], h => by unfold VwL at h; exact h.elim
theorem app_get {α : Type} {l r : List α} {i : Nat} {x : α} (h : (l ++ r)[i]? = some x) : (i < l.length ∧ l[i]? = some x) ∨ (l.length ≤ i ∧ x ∈ r) := by
  by_cases hi : i < l.length
  · rw [List.getElem?_append_left hi] at h
    exact .inl ⟨hi, h⟩
  · rw [List.getElem?_append_right (by omega)] at h
    exact .inr ⟨by omega, List.mem_of_getElem? h⟩
theorem start_rel {ρ : Nat → Addr} {b : Bool} {M : Store} (N : List Str) {fl : List Bool} {ds drs : List D} (h : VwL ρ b M fl ds drs) : Rel ρ an b M (startS fl N.length ds) (startD N drs) M := by
  obtain ⟨a1, a2, a3⟩ := slOf_rel h
  have hl : drs.length = ds.length := VwL.len h
  have at_ : ∀ (i : Nat) (z : Sl), (startS fl N.length ds)[i]? = some z → z ≠ .e → i < ds.length ∧ (slOf fl ds)[i]? = some z := fun i z e ne => by
    rcases app_get e with ⟨h1, h2⟩ | ⟨_, h2⟩
    · exact ⟨by rw [slOf_len] at h1; exact h1, h2⟩
    · exact (ne (List.eq_of_mem_replicate h2)).elim
  have to_ : ∀ (i : Nat) (d : D), i < ds.length → drs[i]? = some d → (startD N drs)[i]? = some (some d) := fun i d hi e => by
    unfold startD
    rw [List.getElem?_append_left (by rw [List.length_map, hl]; exact hi), List.getElem?_map, e]
    rfl
  refine ⟨by unfold startS startD; simp [slOf_len, hl], fun i d e => ?_, fun i m e => ?_, fun i j m m' q n e => ?_, fun i d e => ?_⟩
  · obtain ⟨hi, e1⟩ := at_ i _ e (by simp)
    exact to_ i _ hi (a1 i d e1)
  · obtain ⟨hi, e1⟩ := at_ i _ e (by simp)
    exact (a3 i m e1).elim
  · obtain ⟨hi, e1⟩ := at_ i _ e (by simp)
    exact (a3 i m e1).elim
  · obtain ⟨hi, e1⟩ := at_ i _ e (by simp)
    obtain ⟨dr, h1, h2⟩ := a2 i d e1
    exact ⟨dr, to_ i dr hi h1, h2⟩
section
variable {P : Program} {w : World} {K : PySem.W.Frag} {mg : Str → Option Value} {base : Heap} {γ : Nat → Addr}
theorem fn_ok {F : List D → Pg D} {x qual : Str} {st : Stmt} {f : Addr} {fd : FuncData} {N ps : List Str} {n : Nat} {t : ST} {dvs : List V} {fl : List Bool} (hF : F = runF fl ps.length N.length t) (Fn : FnD K x qual st dvs f fd) (S : FnScope N ps (defScope st))
    (hbody : ∀ (cdv : Value) (A : Around) (outer : List Env) (s : Shared) (H : Hp) (E : XK), Room n (A.deeper (PyProof.Rows.envOfC qual (defScope st) s.heap.objs.size f cdv)) → ISs γ (XOf P w K mg base N qual st f cdv A outer s H E) (defBody st) t) :
    FnOk P w K mg base CX0 (n + 1) f fd ps (spOf K (spW γ fl F)) := by
  subst hF
  refine ok_dD Fn S (fun drs M k ⟨b, u, ds, m, e, U, h⟩ => ?_) fun cdv A outer s H E drs M k hr ⟨b, u, ds, m, e, U, h⟩ => ?_
  · unfold runF at h
    split at h
    · rw [VwL.len e]; assumption
    · exact h.elim
  · unfold runF at h
    split at h
    · refine (hbody cdv A outer s H E hr).go b u M (startS fl N.length ds) _ M m _ ⟨start_rel N e, U, KeepB.refl⟩ ((wpB_bind.1 h).mono fun o n1 w1 => ?_)
      cases o with
      | nx Δ' =>
        intro Δr' M' S'
        have w2 := w1 M' (Aft.of0 S')
        rw [rn_non] at w2
        exact w2
      | rt d => exact w1
      | bk _ => exact w1.elim
      | ct _ => exact w1.elim
    · exact h.elim
end
end DL
end
section
set_option Elab.async false
set_option linter.all false
set_option maxRecDepth 100000
namespace DL
open PySem L2 PyProof.Rows
theorem rnL_nil {ρ : Nat → Addr} : rnL ρ [] = [] := by unfold rnL; rfl
theorem rnL_cons {ρ : Nat → Addr} (d : D) (ds : List D) : rnL ρ (d :: ds) = rn ρ d :: rnL ρ ds := by conv => lhs; unfold rnL
theorem rnL2 {ρ : Nat → Addr} (d d2 : D) : rnL ρ [d, d2] = [rn ρ d, rn ρ d2] := by rw [rnL_cons, rnL_cons, rnL_nil]
/-! ### instances -/
def isC (c : Nat) : D → Bool
  | .ins C _ _ => C == c + 1
  | _ => false
section
variable {γ : Nat → Addr} {X : Cx} {a c' e e2 o tg : Expr} {es rest : List Expr} {pos p apos : Pos} {x f m : Str} {s t : SE} {c n : Nat} {F : List D → Pg D} {kws : List Keyword} {kn : List Str}
def cProp (c : Nat) (F : List D → Pg D) (s : SE) : SE := fun Δ => (s Δ).bind fun d => if isC c d = true then F [d] else .fail
/-! keywords: the values in the order of the parameters -/
structure IK (γ : Nat → Addr) (X : Cx) (kws : List Keyword) (s : SA) : Prop where
  go : ∀ b u M0 Δ Δr M n (k : AK), SI γ b u M0 Δ Δr M n → wpB b n (s Δ) (fun d n' => ∀ M', Aft b u M M' n' → k (rnL (rho γ u) d) M') → EvK X kws Δr M k
/-- a way to put values in order -/
structure Ord (g : List D → List D → List D) : Prop where
  rn : ∀ (ρ : Nat → Addr) ds es, g (rnL ρ ds) (rnL ρ es) = rnL ρ (g ds es)
/-! own operators -/
def cOwn (c : Nat) (F : List D → Pg D) (s t : SE) : SE := fun Δ => (s Δ).bind fun d => (t Δ).bind fun d2 => if (isC c d && isC c d2) = true then F [d, d2] else .fail
def cOwnIn (neg : Bool) (c : Nat) (F : List D → Pg D) (s t : SE) : SE := fun Δ => (s Δ).bind fun d => (t Δ).bind fun d2 => if isC c d2 = true then (F [d2, d]).bind fun r => (ofO (toB r)).bind fun z => .ret (.bl (if neg then !z else z)) else .fail
/-! own == -/
structure EqFacts (K : PySem.W.Frag) (γ : Nat → Addr) (c : Nat) (ts : List String) (cs : List Nat) : Prop where
  ty : ∀ t ∈ ts, PySem.W.notFirst K (γ c) (.type t) = true
  cl : ∀ d ∈ cs, TyC K (γ d) ∧ PySem.W.notFirst K (γ c) (.ref (γ d)) = true
/-! isinstance of an own class -/
structure IsFacts (K : PySem.W.Frag) (γ : Nat → Addr) (c : Nat) (ts : List (String × Bool)) (cs : List (Nat × Bool)) : Prop where
  ty : ∀ t z, (t, z) ∈ ts → PySem.W.kitOne K (.type t) (.ref (γ c)) = some z
  cl : ∀ d z, (d, z) ∈ cs → TyC K (γ d) ∧ PySem.W.kitOne K (.ref (γ d)) (.ref (γ c)) = some z
/-! ### made -/
/-- F makes instances of c -/
def mkP (c : Nat) (F : List D → Pg D) (ds : List D) : Pg D := (F ds).bind fun d => if isC c d = true then .ret d else .fail
def cMk (c : Nat) (F : List D → Pg D) (s : SA) (ad : List D) : SE := fun Δ => (s Δ).bind fun ds => mkP c F (ds ++ ad)
/-! ### self.f = value -/
/-- a target that is an attribute of what is owned at slot i -/
structure GA (γ : Nat → Addr) (X : Cx) (tg : Expr) (g : D → List Sl → Option (List Sl)) : Prop where
  go : ∀ b u M0 Δ Δr M n d Δ' (k : DS → Store → Prop), SI γ b u M0 Δ Δr M n → g d Δ = some Δ' → (∀ M', SI γ b u M0 Δ' Δr M' n → k Δr M') → GwD X tg (rn (rho γ u) d) Δr M k
/-- self.f, self.g = .. -/
structure GAs (γ : Nat → Addr) (X : Cx) (tgs : List Expr) (g : List D → List Sl → Option (List Sl)) : Prop where
  go : ∀ b u M0 Δ Δr M n ds Δ' (k : DS → Store → Prop), SI γ b u M0 Δ Δr M n → g ds Δ = some Δ' → (∀ M', SI γ b u M0 Δ' Δr M' n → k Δr M') → GwsD X tgs (rnL (rho γ u) ds) Δr M k
end
/-! ### __init__ -/
section
variable {P : Program} {w : World} {K : PySem.W.Frag} {mg : Str → Option Value} {base : Heap} {γ : Nat → Addr}
end
end DL
end
section
set_option Elab.async false
set_option linter.all false
set_option maxRecDepth 100000
namespace DL
open PySem L2 PyProof.Rows
/-! ### draws -/
def lowOk : Int → Bool
  | .ofNat n => Nat.ble 1 n && Nat.ble n 1606938044258990275541962092341162602522202993782792835301375
  | .negSucc _ => false
theorem lowOk_is {low : Int} : lowOk low = true ↔ 0 < low ∧ low < 2 ^ 200 := by
  cases low with
  | ofNat n =>
    unfold lowOk
    rw [Bool.and_eq_true]
    constructor
    · rintro ⟨h1, h2⟩
      have h1 := Nat.le_of_ble_eq_true h1
      have h2 := Nat.le_of_ble_eq_true h2
      constructor
      · show (0 : Int) < (n : Int); omega
      · show (n : Int) < 2 ^ 200; omega
    · rintro ⟨h1, h2⟩
      have h1 : (0 : Int) < (n : Int) := h1
      have h2 : (n : Int) < 2 ^ 200 := h2
      exact ⟨Nat.ble_eq_true_of_le (by omega), Nat.ble_eq_true_of_le (by omega)⟩
  | negSucc n =>
    unfold lowOk
    constructor
    · intro h; cases h
    · rintro ⟨h1, _⟩; omega
def takeP : List D → Pg D
  | [.cell 0, .int low] => if lowOk low = true then .draw low fun d => .ret (.int d) else .fail
  | _ => .fail
theorem keepB_of {b : Bool} {u : Addr} {M M' : Store} (hb : b = true) : KeepB b u M M' ↔ Keep u M M' := ⟨fun h q m n e => h q m (fun _ => n) e, fun h q m n e => h q m (n hb) e⟩
section
variable {P : Program} {w : World} {K : PySem.W.Frag} {mg : Str → Option Value} {base : Heap} {γ : Nat → Addr} {n : Nat} {f : Addr} {fd : FuncData} {ps : List Str}
theorem sp_imp {sp sp' : SpD} (F : FnOk P w K mg base CX0 n f fd ps (spOf K sp)) (h : ∀ ds M k, sp' ds M k → sp ds M k) : FnOk P w K mg base CX0 n f fd ps (spOf K sp') := F.imp fun vs H Q E ⟨ds, F, M, k, a, b, c, d⟩ => ⟨ds, F, M, k, a, b, h _ _ _ c, d⟩
theorem take_ok (F : FnOk P w K mg base CX0 n f fd ps (spOf K spTake)) : FnOk P w K mg base CX0 n f fd ps (spOf K (spW γ [] takeP)) := sp_imp F fun drs M k ⟨b, u, ds, m, e, U, h⟩ => by
  unfold VwL at e
  subst e
  unfold takeP at h
  split at h
  · rename_i low _
    split at h
    · rename_i hl
      have hl := lowOk_is.1 hl
      obtain ⟨hb, h1, h2, r, e, h3⟩ := h
      subst e
      refine ⟨u.1, low, r, ?_, hl.1, lg hl.1 hl.2, U hb, fun d M' d0 d1 hK hU => ?_⟩
      · rw [rnL2, rn_cell, rn_int]
        rfl
      · have h4 := h3 d d0 d1 M' ⟨(keepB_of hb).2 hK, fun _ => hU⟩
        rw [rn_int] at h4
        exact h4
    · exact h.elim
  · exact h.elim
theorem fail_ok {x qual : Str} {st : Stmt} {N : List Str} {dvs : List V} {fl : List Bool} (Fn : FnD K x qual st dvs f fd) (S : FnScope N ps (defScope st)) : FnOk P w K mg base CX0 (n + 1) f fd ps (spOf K (spW γ fl fun _ => .fail)) :=
  ok_dD Fn S (fun drs M k ⟨b, u, ds, m, e, U, h⟩ => h.elim) fun cdv A outer s H E drs M k hr ⟨b, u, ds, m, e, U, h⟩ => h.elim
end
/-! ### the call of a law's part with its own box -/
def spBox : SpD := fun ds M k => ∃ (ns : List Int) (j : Nat), ds = [.lst (ns.map D.int), .int (j : Nat)] ∧ j < ns.length ∧ j < 100 ∧ ∀ u M', Keep0 M M' → M u = none → Urn M' u 1000000 → k (.cell u) M'
section
variable {γ : Nat → Addr} {X : Cx} {a c e e2 : Expr} {es : List Expr} {pos p pos2 p2 : Pos} {x y : Str} {s t : SE} {m n : Nat} {F : List D → Pg D}
/-! a or b of fresh lists -/
def oOr (s t : SA) : List Sl → Pg Sl := fun Δ => (s Δ).bind fun ds => if ds.isEmpty = true then (t Δ).bind fun es => .ret (.o (.lst es)) else .ret (.o (.lst ds))
theorem io_or {s t : SA} (h : IL γ X a s) (h2 : IL γ X c t) : IO γ X (.BoolOp .Or [a, c] pos) (oOr s t) := .mk fun b u M0 Δ Δr M n k S w => by
  refine ev_orT ((IL.io h).go b u M0 Δ Δr M n _ S ?_)
  show wpB b n ((s Δ).bind fun ds => Pg.ret (Sl.o (MO.lst ds))) _
  refine wpB_bind.2 ((wpB_bind.1 w).mono fun ds n1 w1 M1 dr A1 V => ?_)
  obtain ⟨q, rfl, hM, hM1, h0, hu, hI⟩ := V
  refine ⟨!ds.isEmpty, by rw [tru_cell hM1, rnL_emp], ?_⟩
  cases he : ds.isEmpty with
  | true =>
    rw [he] at w1
    refine ev_one ((IL.io h2).go b u M0 Δ Δr M1 n1 _ (S.aft A1) ?_)
    show wpB b n1 ((t Δ).bind fun ds => Pg.ret (Sl.o (MO.lst ds))) _
    refine wpB_bind.2 ((wpB_bind.1 (show wpB b n1 ((t Δ).bind fun es => Pg.ret (Sl.o (MO.lst es))) _ from w1)).mono fun es n2 w2 M2 dr A2 V2 => ?_)
    obtain ⟨r, rfl, hr, hr1, r0, ru, rI⟩ := V2
    exact w2 M2 _ (A1.trans A2) ⟨r, rfl, (A1.keep.none A1.urn hr).1, hr1, r0, ru, rI⟩
  | false =>
    rw [he] at w1
    exact w1 M1 _ A1 ⟨q, rfl, hM, hM1, h0, hu, hI⟩
end
end DL
namespace DL
open PySem L2 PyProof.Rows
/-! ### what is never come to -/
section
variable {γ : Nat → Addr} {X : Cx} {e : Expr} {st : Stmt}
end
/-! ### orders of keywords -/
end DL
end
section
set_option Elab.async false
set_option linter.all false
set_option maxRecDepth 100000
/-! DL: enumerate over a tuple; count of a tuple -/
namespace DL
open PySem PySem.Spec PyProof.Rows L2
set_option maxHeartbeats 1000000 in
theorem meets_enumB1 {v : Value} {o : Obj} {HH : Heap → Prop} (B : Begins v o HH) :
    Meets (Builtin.«enumerate.__new__» ⟨[.type "enumerate", v], []⟩) (fun _ R s => HH s.heap ∧
      R (.ok (.ret (.ref (s.heap.push o).objs.size))) { s with heap := (s.heap.push o).push { cls := .type "enumerate", data := .fields #[.none, .bool false, .ref s.heap.objs.size, rawInt 0, .none, .none] } }) :=
  .of_wp fun prog w A R s hh => by
    obtain ⟨hp, g, d, tk, os⟩ := s; obtain ⟨hb, hh⟩ := hh
    have esub := sub_enumerate
    have qi : ∀ {A' : Around} {E : Value → Shared → Prop} {Q : Value → Shared → Prop}, Q (.ref hp.objs.size) ⟨hp.push o, g, d, tk, os⟩ → wpAny (model prog w) A' (pyIter v) Q E ⟨hp, g, d, tk, os⟩ :=
      fun q => B.iter prog w _ _ ⟨hp, g, d, tk, os⟩ _ hb q
    wp_walk using qi
    refine wpAny_stack_any fun sta => wpAny_pure ?_
    split
    · rename_i cc _ _ _ _ _
      cases (cc == Value.type "enumerate")
      · wp_walk using qi
        exact ⟨_, rfl, hh⟩
      · wp_walk using qi
        exact ⟨_, rfl, hh⟩
    · wp_walk using qi
      exact ⟨_, rfl, hh⟩
section
variable {prog : Program} {w : World} {A : Around} {E : Value → Shared → Prop} {s : Shared}
theorem call_enumB1 {v : Value} {o : Obj} {HH : Heap → Prop} {Q : Value → Shared → Prop} (B : Begins v o HH) (hb : HH s.heap)
    (hq : ∀ h', IsEnum h' (s.heap.objs.size + 1) s.heap.objs.size 0 .none → h'.get? s.heap.objs.size = some o → h'.objs.size = s.heap.objs.size + 2 →
      (∀ b c, s.heap.get? b = some c → h'.get? b = some c) → Q (.ref (s.heap.objs.size + 1)) { s with heap := h' }) :
    wpAny (model prog w) A (call (.type "enumerate") [v]) Q E s := by
  refine callType_new F.called_enumerate (by decide) (F.typeCall_enumerate_1 _) (F.newCall_enumerate_1 _) (fun obj => F.args_object_init_2 obj _) F.entry_enumerate_new (meets_enumB1 B) ⟨hb, ?_⟩
  have zz : (s.heap.push o).objs.size = s.heap.objs.size + 1 := Heap.size_push ..
  show _ ∧ _
  rw [zz]
  have ee : IsEnum ((s.heap.push o).push { cls := .type "enumerate", data := .fields #[.none, .bool false, .ref s.heap.objs.size, rawInt 0, .none, .none] }) (s.heap.objs.size + 1) s.heap.objs.size 0 .none := by
    have th := Heap.get?_push_size (s.heap.push o) (o := { cls := .type "enumerate", data := .fields #[.none, .bool false, .ref s.heap.objs.size, rawInt 0, .none, .none] }) rfl
    rw [zz] at th; exact th
  exact ⟨⟨_, ee, rfl⟩, hq _ ee (Heap.get?_push_of_some _ (Heap.get?_push_size _ B.free)) (by rw [Heap.size_push, zz]) fun b c x => Heap.get?_push_of_some _ (Heap.get?_push_of_some _ x)⟩
end
/-- the tuple at a, its items with their numbers in new pairs -/
def IteTB (K : PySem.W.Frag) (a : Addr) : It :=
  ⟨fun i H => ∃ (xs : List V) (x : V), SqT K H a xs ∧ xs[i]? = some x, fun i H v H' => ∃ T ob xs, v = .ref T ∧ H T = none ∧ Obj.dict ob = none ∧ H' = upd H T (.frz ob (.tup xs)) ∧ yEn (fun H => SqT K H a) i H xs,
    fun i H => ∃ xs : List V, SqT K H a xs ∧ xs.length = i⟩
theorem turn_enumT {P : Program} {w : World} {K : PySem.W.Frag} {elts : List Expr} {kk : Nat} {tpos : Pos} (a e it : Addr) :
    Turn P w K (.Tuple elts kk tpos) (IteTB K a) [e, it] e (fun i h => (∃ old, IsEnum h e it i old) ∧ h.IsTupleIter it a i ∧ e ≠ it ∧ a ≠ it ∧ a ≠ e) where
  mem := by simp
  obj := fun i h sta b hb => by
    obtain ⟨⟨old, en⟩, ⟨ob, eo, _, ed⟩, _⟩ := sta
    have zz : b = e ∨ b = it := by simpa using hb
    rcases zz with zz | zz
    · rw [zz]; exact ⟨_, en, fun v q => nomatch q⟩
    · rw [zz]; exact ⟨ob, eo, fun v q => by rw [ed] at q; cases q⟩
  keep := fun i h h' sta kp => by
    obtain ⟨⟨old, en⟩, hi, ne⟩ := sta
    exact ⟨⟨old, kp e (by simp) _ en⟩, hi.at fun ob q => kp it (by simp) ob q, ne⟩
  item := by
    intro X eP ew eK hc i pins s σ H E I hf sta hg
    subst eP ew eK
    obtain ⟨⟨old, en⟩, hit, ne, na, nb⟩ := sta
    obtain ⟨xs, x, sq, hx⟩ := hg
    obtain ⟨its, rv, pt, _⟩ := I.tuple sq
    obtain ⟨u, hu, ru⟩ := rv.get hx
    have lu : i < its.toArray.size := by
      obtain ⟨z, _⟩ := List.getElem?_eq_some_iff.mp hu
      simpa using z
    have el : e < s.heap.objs.size := Heap.lt_size en
    have il : it < s.heap.objs.size := by obtain ⟨_, q, _⟩ := hit; exact Heap.lt_size q
    refine wpAny_pyNext_enum_itemD (Draws.tuple (A := X.A.in1) (by exact I.ok.hd hc) it a na its.toArray) en ⟨hit, pt⟩ lu ne (by simp [ne, Ne.symm nb]) fun y h' tk hy ho st' hT hsz hk => ?_
    have ey : y = u := by
      have h1 : its.toArray[i]? = some u := by simpa using hu
      rw [h1] at hy; cases hy; rfl
    subst ey
    refine ⟨_, rfl, wpAny_letOwnedTupleGo_enum (s := { s with heap := h', toks := tk + 1 }) ho fun h'' en' sb => ?_⟩
    have hT2 : h''.get? s.heap.objs.size = some (tObj [.int i tk, y]) := (sb.2 _ (Nat.ne_of_gt el)).trans hT
    have nw := ok_bare (X := X) (xs := [.int (i : Nat), x]) (H' := upd H s.heap.objs.size (.frz (tObj [.int i tk, y]) (.tup [.int (i : Nat), x]))) hT2 (show Vals [V.int (i : Nat), x] [Value.int i tk, y] from .cons ⟨_, rfl⟩ (.cons ru .nil)) (two_le _ _)
    have I1 := I.turnedNew (t' := tk + 1) (ch := [e, it]) (fun b c hb q => (sb.2 b (fun z => hb (by simp [z]))).trans (hk b c (fun z => hb (by simp [z])) (fun z => hb (by simp [z])) q)) hf (Nat.le_refl _) nw
    refine ⟨.ref s.heap.objs.size, _, I1, rfl, ⟨_, _, _, rfl, I.hok.fresh (Nat.le_refl _), rfl, rfl, x, rfl, fun ys hy => by rw [I.tuple_inj hy sq]; exact hx⟩, ⟨⟨y, ?_⟩, st'.1.at fun c q => (sb.2 it (Ne.symm ne)).trans q, ne, na, nb⟩, fun b hb => ?_⟩
    · rw [Int.natCast_succ]; exact en'
    · have lt : b < s.heap.objs.size := by
        have zz : b = e ∨ b = it := by simpa using hb
        rcases zz with zz | zz
        · rw [zz]; exact el
        · rw [zz]; exact il
      rw [upd_ne (Nat.ne_of_lt lt)]
      exact (hf b hb).1
  done := by
    intro X eP ew eK hc i pins s σ H E I hf sta hg
    subst eP ew eK
    obtain ⟨⟨old, en⟩, hit, ne, na, nb⟩ := sta
    obtain ⟨xs, sq, hx⟩ := hg
    obtain ⟨its, rv, pt, _⟩ := I.tuple sq
    obtain ⟨f0, f1, f2, f3, f4, f5⟩ := hf it (by simp)
    have ln := rv.length
    have es : its.toArray.size = i := by simp; omega
    exact wpAny_pyNext_enum_endD (Draws.tuple (A := X.A.in1) (by exact I.ok.hd hc) it a na its.toArray) en (by rw [es]; exact ⟨hit, pt⟩) fun h' eb => ⟨rfl, I.turned (t' := s.toks) (fun b o hb q => eb b o hb q) f0 f1 f3 f4 f5⟩
  self := fun A i s Q E sta hh => let ⟨⟨_, en⟩, _⟩ := sta; wpAny_pyIter_enum en hh
def iEnumA (K : PySem.W.Frag) (ta : TA) : TI := fun σ H R => ta σ H fun vs H1 => ∃ a xs, vs = [.ref a] ∧ ((SqL K H1 a xs ∧ R (IteB K a) H1) ∨ (SqT K H1 a xs ∧ R (IteTB K a) H1))
theorem pi_enumA {X : Cx} {e : Expr} {ta : TA} {p pos tpos : Pos} {elts : List Expr} {kk : Nat} (hg : Gl X "enumerate") (hm : X.mg "enumerate" = none) (ha : PA X [e] ta) (hs : starEach [e] X.env = [(false, eval e X.env)] := by rfl) :
    PI X (.Tuple elts kk tpos) (.Call (.Name "enumerate" p) [e] [] pos) (iEnumA X.K ta) := by
  refine ⟨fun pins s σ H R I hh => Call_ (ld_blt I hg hm boot_enumerate (PyProof.Rows.callWith_type1 (thn (ha.run pos pins s σ H _ I hh) fun us s1 ⟨vs, H1, I1, r1, q1⟩ => ?_) hs rfl))⟩
  obtain ⟨a, xs, ex, q1⟩ := q1
  subst ex
  cases r1 with
  | cons r rr =>
    cases rr
    cases r
    have fpk : ∀ b ∈ [s1.heap.objs.size + 1, s1.heap.objs.size], FpOk X pins H1 b := fun b hb => by
      have zz : b = s1.heap.objs.size + 1 ∨ b = s1.heap.objs.size := by simpa using hb
      have le : s1.heap.objs.size ≤ b := by omega
      exact I1.fpOk le (I1.hok.fresh le)
    rcases q1 with ⟨sq, q⟩ | ⟨sq, q⟩
    · obtain ⟨its, rv, p', _⟩ := I1.list sq
      refine call_enumerate_list p'.isList fun h' en hit hsz hk => wpAny_pyIter_enum en ?_
      exact ⟨s1.heap.objs.size + 1, [s1.heap.objs.size + 1, s1.heap.objs.size], _, _, H1, rfl, I1.kept (t' := s1.toks) hk, turn_enumB a (s1.heap.objs.size + 1) s1.heap.objs.size, ⟨⟨.none, en⟩, hit, Nat.succ_ne_self _⟩, fpk, q⟩
    · obtain ⟨its, rv, p', _⟩ := I1.tuple sq
      have la : a < s1.heap.objs.size := by obtain ⟨_, z, _⟩ := p'; exact Heap.lt_size z
      refine call_enumB1 (begins_tuple a its.toArray) p' fun h' en hit hsz hk => wpAny_pyIter_enum en ?_
      exact ⟨s1.heap.objs.size + 1, [s1.heap.objs.size + 1, s1.heap.objs.size], _, _, H1, rfl, I1.kept (t' := s1.toks) hk, turn_enumT a (s1.heap.objs.size + 1) s1.heap.objs.size, ⟨⟨.none, en⟩, ⟨_, hit, rfl, rfl⟩, Nat.succ_ne_self _, Nat.ne_of_lt la, Nat.ne_of_lt (Nat.lt_succ_of_lt la)⟩, fpk, q⟩
section
variable {X : Cx} {Δ : DS} {M : Store} {e : Expr} {elts : List Expr} {kk : Nat} {tpos p pos : Pos} {ka : AK}
theorem rep_enumT {K : PySem.W.Frag} {F H : Hp} {q : Addr} {vs : List V} {ds : List D} (hq : SqU K F q vs) (il : IsL K F ds vs) : ItRep K (IteTB K q) (enumD ds) F M H where
  go := fun i F' M' H' st ok hi => ⟨vs, vs[i]'(by rw [← il.length, ← enumD_len]; exact hi), ok.sqT (sqT_mono st.ext hq), List.getElem?_eq_getElem _⟩
  yld := fun i F' M' H' v H2 st ok hi y => by
    obtain ⟨T, ob, _, rfl, hT, hd, rfl, u, rfl, y⟩ := y
    obtain ⟨d, h1, h2⟩ := (il.mono st.ext).get' (y vs (ok.sqT (sqT_mono st.ext hq)))
    have n := pair_new ok (is_int.2 rfl : Is K F' (.int (i : Nat)) _) h2 hT hd
    exact ⟨_, _, enumD_get h1, n.1, n.2.1, n.2.2⟩
  stop := fun F' M' H' st ok => ⟨vs, ok.sqT (sqT_mono st.ext hq), by rw [enumD_len, il.length]⟩
def seqAny : D → Option (List D)
  | .lst ds => some ds | .frl ds => some ds | .tup ds => some ds
  | _ => none
theorem it_enumA (hg : Gl X "enumerate") (hm : X.mg "enumerate" = none) (h : EvD X e Δ M fun d M1 => ∃ ds, seqAny d = some ds ∧ ka (enumD ds) M1) (hs : starEach [e] X.env = [(false, eval e X.env)] := by rfl) : ItD X (.Tuple elts kk tpos) (.Call (.Name "enumerate" p) [e] [] pos) Δ M ka := fun F H σ R hS ok post =>
  semI_of (pi_enumA hg hm (pa_cons pe_sem pa_nil hs) hs) (h F H σ _ hS ok fun d M1 F1 H1 v ⟨ds, ed, hk⟩ st ok1 i => by
    unfold seqAny at ed
    split at ed
    · cases ed
      obtain ⟨q, vs, e, hq, il⟩ := is_lst.1 i
      subst e
      exact ⟨q, vs, rfl, .inl ⟨SqL.of (ok1.lst hq), post _ M1 F1 H1 _ hk st ok1 (rep_enum (SqL.of hq) il)⟩⟩
    · cases ed
      obtain ⟨q, vs, e, hq, il⟩ := is_frl.1 i
      subst e
      exact ⟨q, vs, rfl, .inl ⟨ok1.sqL hq, post _ M1 F1 H1 _ hk st ok1 (rep_enum hq il)⟩⟩
    · cases ed
      obtain ⟨q, vs, e, hq, il⟩ := is_tup.1 i
      subst e
      exact ⟨q, vs, rfl, .inr ⟨ok1.sqT hq, post _ M1 F1 H1 _ hk st ok1 (rep_enumT hq il)⟩⟩
    · cases ed)
end
end DL
end
section
set_option Elab.async false
set_option linter.all false
set_option maxRecDepth 100000
/-! DL: t[:-1].count(x) of texts -/
namespace DL
open PySem PySem.Spec PyProof.Rows L2
theorem countStrOf (k : Str) : ∀ {us : List Value} {zs : List Str}, StrsAre us zs → us.countP (PyProof.Rows.isStrOf k) = zs.count k
  | _, _, .nil => rfl
  | _, _, .cons n t h => by
    have ih := countStrOf k h
    rw [List.countP_cons, List.count_cons, ih]
    rfl
theorem strsDrop : ∀ {us : List Value} {zs : List Str}, StrsAre us zs → StrsAre us.dropLast zs.dropLast
  | _, _, .nil => .nil
  | _, _, .cons n t .nil => .nil
  | _, _, .cons n t (.cons n2 t2 h) => .cons n t (strsDrop (.cons n2 t2 h))
theorem cutDrop {α : Type} (l : List α) (h : l ≠ []) : (l.drop (HT.sIx l.length 0 none)).take (HT.sIx l.length l.length (some (-1)) - HT.sIx l.length 0 none) = l.dropLast ∧ HT.sIx l.length l.length (some (-1)) ≠ l.length := by
  have hl : 0 < l.length := List.length_pos_iff.mpr h
  have e1 : HT.sIx l.length 0 none = 0 := by simp [HT.sIx]
  have e2 : HT.sIx l.length l.length (some (-1)) = l.length - 1 := by
    simp [HT.sIx]
    omega
  rw [e1, e2, List.drop_zero, Nat.sub_zero, List.dropLast_eq_take]
  exact ⟨rfl, by omega⟩
def tCutCnt (K : PySem.W.Frag) (ta te : TE) : TE := fun σ H Q => ta σ H fun x H1 => ∃ q zs, x = .ref q ∧ SqT K H1 q (zs.map V.str) ∧ zs ≠ [] ∧ te σ H1 fun y H2 => ∃ z, [y] = [V.str z] ∧ Q (.int (zs.dropLast.count z : Nat)) H2
section
variable {X : Cx}
theorem pe_cutCnt {a e : Expr} {ta te : TE} {j : Nat} {p1 p2 p3 sp apos cpos : Pos} (hA : PE X a ta) (hE : PE X e te)
    (hfew : ((backTo cpos (starEach [e] X.env)).all (fun x => !x.1) && (backToKw cpos (keywordEach [] X.env)).all (fun x => x.1.isSome) && decide ([e].length + ([] : List Keyword).length + (if ([] : List Keyword).isEmpty then 0 else 1) < 30)) = true := by rfl)
    (hline : (apos.endLine == cpos.line) = true := by rfl) (hs : starEach [e] X.env = [(false, eval e X.env)] := by rfl)
    (hbase : attributeBase (.Subscript a (.Slice none (some (.UnaryOp .USub (.Constant (.int 1) j p1) p2)) none p3) sp) "count" X.env (eval (.Subscript a (.Slice none (some (.UnaryOp .USub (.Constant (.int 1) j p1) p2)) none p3) sp) X.env) = eval (.Subscript a (.Slice none (some (.UnaryOp .USub (.Constant (.int 1) j p1) p2)) none p3) sp) X.env := by rfl) :
    PE X (.Call (.Attribute (.Subscript a (.Slice none (some (.UnaryOp .USub (.Constant (.int 1) j p1) p2)) none p3) sp) "count" apos) [e] [] cpos) (tCutCnt X.K ta te) := by
  refine ⟨fun pins s σ H Q I hh => ?_⟩
  refine wpAny_Call_method_late hbase hfew hline rfl (Subscript_ (thn (hA.run pins s σ H _ I hh) fun v s1 ⟨x, H1, I1, r1, qq, zs, ex, sq, hz, hte⟩ => ?_))
  subst ex
  cases r1
  have hst : PO X (some (.UnaryOp .USub (.Constant (.int 1) j p1) p2)) (tPart (tUn (rU fun i => .int (-i)) (tC (.int 1)))) := po_some (pe_un un_neg pe_int)
  refine wpAny_Slice (thn (po_none.run pins s1 σ H1 (fun o H2 => o = none ∧ H2 = H1) I1 ⟨rfl, rfl⟩) fun vl s2 ⟨lo, H2, I2, pl, el, e2⟩ => ?_)
  subst el e2
  refine thn (hst.run pins s2 σ H2 (fun o H4 => o = some (-1) ∧ H4 = H2) I2 ⟨1, rfl, -1, rfl, rfl, rfl⟩) fun vu s3 ⟨o, H4, I4, ps, eo, e4⟩ => ?_
  subst eo e4
  rw [evalPart_none]
  refine wpAny_pure ?_
  have I5 : Inv X pins σ H4 { s3 with heap := s3.heap.push { cls := .type "slice", data := .fields #[vl, vu, .none] } } := I4.kept (t' := s3.toks) fun b ob q => Heap.get?_push_of_some _ q
  generalize hs5 : ({ s3 with heap := s3.heap.push { cls := .type "slice", data := .fields #[vl, vu, .none] } } : Shared) = s5 at I5
  have hsl : s5.heap.IsSliceOf s3.heap.objs.size vl vu .none := by subst hs5; exact Heap.IsSliceOf.new ..
  obtain ⟨its, rv, ht, hlz⟩ := I5.tuple sq
  have ss := rv.strs
  have hlen : its.length = zs.length := by have := rv.length; rw [List.length_map] at this; exact this.symm
  have hne : its ≠ [] := fun z => hz (List.length_eq_zero_iff.mp (by rw [← hlen, z]; rfl))
  obtain ⟨cut, ncut⟩ := cutDrop its hne
  show wpAny (model X.prog X.w) X.A (subscriptTail a (.Slice none (some (.UnaryOp .USub (.Constant (.int 1) j p1) p2)) none p3) (.ref qq) (.ref s3.heap.objs.size)) _ X.xe s5
  refine tail_any (ops := [.ref s3.heap.objs.size, .ref qq]) ht.typeIs (PyProof.Rows.slot_tuple_getitem.lookup) ?_ (by with_unfolding_all rfl)
  refine HT.getItem_tuple_cut ht hsl pl ps (fun z => ncut (by have := z.2; rw [List.size_toArray] at this; exact this)) ?_ (by rw [List.size_toArray, hlen]; rw [List.length_map] at hlz; exact hlz)
  have cut2 : List.take (HT.sIx its.toArray.size its.toArray.size (some (-1)) - HT.sIx its.toArray.size 0 none) (List.drop (HT.sIx its.toArray.size 0 none) its.toArray.toList) = its.dropLast := cut
  rw [cut2]
  -- the fresh tuple, pinned while x is found
  have fp5 : ∀ b ∈ [s5.heap.objs.size], FpOk X pins H4 b := fun b hb => by
    have e : b = s5.heap.objs.size := by simpa using hb
    subst e
    exact I5.fpOk (Nat.le_refl _) (I5.hok.fresh (Nat.le_refl _))
  have hT : (s5.heap.push { cls := .type "tuple", data := .seq its.dropLast.toArray }).get? s5.heap.objs.size = some { cls := .type "tuple", data := .seq its.dropLast.toArray } := Heap.get?_push_size _ rfl
  have I6 : Inv X pins σ H4 { s5 with heap := s5.heap.push { cls := .type "tuple", data := .seq its.dropLast.toArray } } := I5.kept (t' := s5.toks) fun b ob q => Heap.get?_push_of_some _ q
  have I7 := I6.pinned fp5 fun b hb => by
    have e : b = s5.heap.objs.size := by simpa using hb
    subst e
    exact ⟨_, hT, fun v q => nomatch q⟩
  refine ⟨"tuple", "tuple.count", F.plainAttrs_tuple, F.slot_tuple_count, F.type_tuple_count, ⟨_, hT, rfl⟩, fun b eb => by cases eb; exact ⟨_, hT, rfl⟩, ?_⟩
  have pa : PA X [e] _ := pa_cons hE pa_nil hs
  have hAr := pa.run cpos _ _ σ H4 (fun vs H2 => ∃ z, vs = [.str z] ∧ Q (.int (zs.dropLast.count z : Nat)) H2) I7 hte
  rw [hs] at hAr ⊢
  refine Calls.callWith_builtin rfl (Calls.evalArgs_plain ?_)
  refine thn hAr fun us s8 ⟨vs, H8, I8, r8, z, ev, q8⟩ => ?_
  subst ev
  obtain ⟨u, rfl, ru⟩ := r8.one
  obtain ⟨t, rfl⟩ := ru
  have hT8 : s8.heap.get? s5.heap.objs.size = some { cls := .type "tuple", data := .seq its.dropLast.toArray } := (I8.pin (_, _) (List.mem_append_right _ (List.mem_append_right _ (mem_pinsAt (List.mem_singleton.mpr rfl) hT)))).1
  have sd := strsDrop ss
  refine call_meets F.slot_tuple_count ⟨_, hT8, rfl⟩ F.entry_tuple_count (F.args_tuple_count_2 _ _) (SeqAt.tuple_countAt _ _ _ _ _ (.str z t) (PyProof.Rows.isStrOf z)) ⟨hT8, fun y hy => (PyProof.Rows.eq_isStrOf z t sd y (by simpa using hy)).at _ _, ?_⟩
  refine ⟨.int (zs.dropLast.count z : Nat), H8, (I8.unpinned (pins := pins)).tok _, ⟨s8.toks, ?_⟩, q8⟩
  rw [List.toList_toArray, countStrOf z sd]
variable {Δ : DS} {M : Store} {k : DK}
def strL1 : List D → Option (List Str)
  | [] => some []
  | .str x :: ds => (strL1 ds).map fun xs => x :: xs
  | _ :: _ => none
theorem strL1_is {K : PySem.W.Frag} {F : Hp} : ∀ {ds : List D} {zs : List Str} {vs : List V}, strL1 ds = some zs → IsL K F ds vs → vs = zs.map V.str
  | [], zs, vs, e, i => by cases e; exact isL_nil.1 i
  | .str x :: ds, zs, vs, e, i => by
    obtain ⟨ys, h1, h2⟩ := Option.map_eq_some_iff.mp e
    subst h2
    obtain ⟨v, r, rfl, h3, h4⟩ := isL_cons.1 i
    rw [is_str.1 h3, strL1_is h1 h4]
    rfl
def cntO : D → D → Option D
  | .tup ds, .str z => (strL1 ds).bind fun zs => if zs.isEmpty then none else some (.int (zs.dropLast.count z : Nat))
  | _, _ => none
theorem ev_cutCnt {a e : Expr} {j : Nat} {p1 p2 p3 sp apos cpos : Pos} (h1 : EvD X a Δ M fun d1 M1 => (∃ ds zs, d1 = .tup ds ∧ strL1 ds = some zs ∧ zs ≠ []) ∧ EvD X e Δ M1 fun d2 M2 => ∃ r, cntO d1 d2 = some r ∧ k r M2)
    (hfew : ((backTo cpos (starEach [e] X.env)).all (fun x => !x.1) && (backToKw cpos (keywordEach [] X.env)).all (fun x => x.1.isSome) && decide ([e].length + ([] : List Keyword).length + (if ([] : List Keyword).isEmpty then 0 else 1) < 30)) = true := by rfl)
    (hline : (apos.endLine == cpos.line) = true := by rfl) (hs : starEach [e] X.env = [(false, eval e X.env)] := by rfl)
    (hbase : attributeBase (.Subscript a (.Slice none (some (.UnaryOp .USub (.Constant (.int 1) j p1) p2)) none p3) sp) "count" X.env (eval (.Subscript a (.Slice none (some (.UnaryOp .USub (.Constant (.int 1) j p1) p2)) none p3) sp) X.env) = eval (.Subscript a (.Slice none (some (.UnaryOp .USub (.Constant (.int 1) j p1) p2)) none p3) sp) X.env := by rfl) :
    EvD X (.Call (.Attribute (.Subscript a (.Slice none (some (.UnaryOp .USub (.Constant (.int 1) j p1) p2)) none p3) sp) "count" apos) [e] [] cpos) Δ M k := fun F H σ Q hS ok post =>
  sem_of (pe_cutCnt pe_sem pe_sem hfew hline hs hbase) (h1 F H σ _ hS ok fun d1 M1 F1 H1 x ⟨⟨ds, zs, ed, ez, en⟩, h2⟩ st ok1 i => by
    subst ed
    obtain ⟨q, vs, e, hq, il⟩ := is_tup.1 i
    subst e
    have hv := strL1_is ez il
    subst hv
    refine ⟨q, zs, rfl, ok1.sqT hq, en, h2 F1 H1 σ _ (hS.mono st.ext) ok1 fun d2 M2 F2 H2 y ⟨r, hr, hk⟩ st2 ok2 i2 => ?_⟩
    unfold cntO at hr
    split at hr
    · rename_i ds2 z heq heq2
      cases heq
      rw [ez] at hr
      have hr2 : (if zs.isEmpty then none else some (D.int (zs.dropLast.count z : Nat))) = some r := hr
      rw [if_neg (by simpa using en)] at hr2
      cases hr2
      exact ⟨z, by rw [is_str.1 i2], post _ M2 F2 H2 _ hk (st.trans st2) ok2 (is_int.2 rfl)⟩
    · cases hr)
end
end DL
end
section
set_option Elab.async false
set_option linter.all false
set_option maxRecDepth 100000
/-! DP: dicts -/
namespace DL
open PySem L2
theorem keyOf_rn {ρ : Nat → Addr} {d : D} {c : Key} (h : keyOf d = some c) : rn ρ d = d := by
  unfold keyOf at h
  split at h
  · exact rn_int _
  · exact rn_str _
  · cases h
theorem valD_rn {ρ : Nat → Addr} {q : Key} : ∀ {ks : List Key} {ds : List D}, valD ks (rnL ρ ds) q = (valD ks ds q).map (rn ρ)
  | [], [] => by unfold rnL valD; rfl
  | [], _ :: _ => by unfold rnL valD; rfl
  | _ :: _, [] => by unfold rnL valD; rfl
  | c :: ks, d :: ds => by
    unfold rnL valD
    by_cases h : c = q
    · rw [if_pos h, if_pos h]; rfl
    · rw [if_neg h, if_neg h]; exact valD_rn
def dixO : D → D → Option D
  | .dct ks ds, y => (keyOf y).bind fun c => valD ks ds c
  | _, _ => none
theorem dixO_is {x y d : D} (h : dixO x y = some d) : ∃ ks ds c, x = .dct ks ds ∧ keyOf y = some c ∧ valD ks ds c = some d := by
  unfold dixO at h
  split at h
  · obtain ⟨c, h1, h2⟩ := Option.bind_eq_some_iff.mp h
    exact ⟨_, _, c, rfl, h1, h2⟩
  · cases h
def dinO (neg : Bool) : D → D → Option D
  | y, .dct ks ds => (keyOf y).map fun c => .bl (if neg then !(valD ks ds c).isSome else (valD ks ds c).isSome)
  | _, _ => none
section
variable {γ : Nat → Addr} {X : Cx} {a c e e2 o tg : Expr} {es rest : List Expr} {pos p apos : Pos} {x : Str} {s t r : SE}
theorem i_dix (hu : X.A.units + 64 < cLine) (hs : NoSl c) (ha : IE γ X a s) (hc : IE γ X c t) : IE γ X (.Subscript a c pos) (c2 dixO s t) :=
  i_two (PP := fun d1 d2 M2 k => ∃ ks ds c r, d1 = .dct ks ds ∧ keyOf d2 = some c ∧ valD ks ds c = some r ∧ k r M2) (fun _ _ _ h => ev_dix (by omega) hs h) (fun ρ x y d M k h hk => by
    obtain ⟨ks, ds, c, rfl, h1, h2⟩ := dixO_is h
    exact ⟨ks, _, c, _, rn_dct _ _, by rw [keyOf_rn h1]; exact h1, by rw [valD_rn, h2]; rfl, hk⟩) ha hc
def dctOf : D → Option (List Key × List D)
  | .dct ks ds => some (ks, ds)
  | _ => none
theorem dctOf_is {d : D} {p : List Key × List D} (h : dctOf d = some p) : d = .dct p.1 p.2 := by
  unfold dctOf at h
  split at h
  · cases h; rfl
  · cases h
def cGet (s t r : SE) : SE := fun Δ => (s Δ).bind fun d => (ofO (dctOf d)).bind fun q => (t Δ).bind fun y => (ofO (keyOf y)).bind fun c => (r Δ).bind fun z => .ret ((valD q.1 q.2 c).getD z)
theorem i_get2 (hu : X.A.units + 64 < cLine) (ho : IE γ X o s) (he : IE γ X e t) (h2 : IE γ X e2 r) (m : M2 X o "get" apos e e2 pos := by exact ⟨rfl, rfl, rfl, rfl⟩) : IE γ X (.Call (.Attribute o "get" apos) [e, e2] [] pos) (cGet s t r) := .mk fun b u M0 Δ Δr M n k S w => by
  refine ev_get2 (by omega) (ho.go b u M0 Δ Δr M n _ S ((wpB_bind.1 w).mono fun d n1 w1 M1 A1 => ?_)) m
  obtain ⟨⟨ks, ds⟩, h1, w1a⟩ := wpB_ofO (wpB_bind.1 w1)
  have hd := dctOf_is h1
  subst hd
  refine ⟨ks, rnL (rho γ u) ds, rn_dct _ _, he.go b u M0 Δ Δr M1 n1 _ (S.aft A1) ((wpB_bind.1 w1a).mono fun y n2 w2 M2 A2 => ?_)⟩
  obtain ⟨c, hk, w2⟩ := wpB_ofO (wpB_bind.1 w2)
  refine ⟨c, by rw [keyOf_rn hk]; exact hk, h2.go b u M0 Δ Δr M2 n2 _ ((S.aft A1).aft A2) ((wpB_bind.1 w2).mono fun z n3 w3 M3 A3 => ?_)⟩
  have w4 := w3 M3 ((A1.trans A2).trans A3)
  rw [valD_rn]
  cases hv : valD ks ds c with
  | none => simp only [hv] at w4; exact w4
  | some q => simp only [hv] at w4; exact w4
theorem din_ok {neg : Bool} : Ok2 (DInP neg) (dinO neg) := fun ρ x y d M k h hk => by
  unfold dinO at h
  split at h
  · obtain ⟨c, h1, rfl⟩ := Option.map_eq_some_iff.mp h
    refine ⟨_, _, c, rn_dct _ _, by rw [keyOf_rn h1]; exact h1, ?_⟩
    rw [valD_rn, Option.isSome_map]
    rw [rn_bl] at hk
    exact hk
  · cases h
theorem k_dnotin (hu : X.A.units + 64 < cLine) (ha : IE γ X a s) (hc : IE γ X c t) : IC γ X .NotIn a c (c2 (dinO true) s t) := j_two (fun _ _ _ h => c_dnotin (by omega) h) din_ok ha hc
theorem rn_keys {ρ : Nat → Addr} (ks : List Key) : rnL ρ (ks.map keyD) = ks.map keyD := by
  rw [rnL_map, List.map_map]
  congr 1
  funext q
  cases q with
  | inl i => exact rn_int _
  | inr x => exact rn_str _
def aKeys (s : SE) : SA := fun Δ => (s Δ).bind fun d => (ofO (dctOf d)).bind fun q => .ret (q.1.map keyD)
theorem n_keys (h : IE γ X e s) : II γ X tg e (aKeys s) := .mk fun b u M0 Δ Δr M n k S w =>
  it_keys (h.go b u M0 Δ Δr M n _ S ((wpB_bind.1 w).mono fun d n1 w1 M1 A1 => by
    obtain ⟨⟨ks, ds⟩, h1, w1a⟩ := wpB_ofO (wpB_bind.1 w1)
    have hd := dctOf_is h1
    subst hd
    have hk := w1a M1 A1
    rw [rn_keys] at hk
    exact ⟨_, _, rn_dct _ _, hk⟩))
/-! enumerate of any sequence -/
def aEnumA (s : SE) : SA := fun Δ => (s Δ).bind fun d => (ofO (seqAny d)).bind fun ds => .ret (enumD ds)
theorem seqAny_rn {ρ : Nat → Addr} {d : D} {ds : List D} (h : seqAny d = some ds) : seqAny (rn ρ d) = some (rnL ρ ds) := by
  unfold seqAny at h
  split at h
  · cases h; rw [rn_lst]; rfl
  · cases h; rw [rn_frl]; rfl
  · cases h; rw [rn_tup]; rfl
  · cases h
theorem n_enumA {elts : List Expr} {kk : Nat} {tpos : Pos} (hg : Gl X "enumerate") (hm : X.mg "enumerate" = none) (h : IE γ X e s) (hs : starEach [e] X.env = [(false, eval e X.env)] := by rfl) : II γ X (.Tuple elts kk tpos) (.Call (.Name "enumerate" p) [e] [] pos) (aEnumA s) := .mk fun b u M0 Δ Δr M n k S w =>
  it_enumA hg hm (h.go b u M0 Δ Δr M n _ S ((wpB_bind.1 w).mono fun d n1 w1 M1 A1 => by
    obtain ⟨ds, h1, w1⟩ := wpB_ofO (wpB_bind.1 w1)
    have hk := w1 M1 A1
    rw [rn_enum] at hk
    exact ⟨_, seqAny_rn h1, hk⟩)) hs
/-! t[:-1].count(x) -/
theorem strL1_rn {ρ : Nat → Addr} : ∀ {ds : List D} {zs : List Str}, strL1 ds = some zs → rnL ρ ds = ds
  | [], _, _ => by unfold rnL; rfl
  | .str x :: ds, zs, h => by
    obtain ⟨ys, h1, h2⟩ := Option.map_eq_some_iff.mp h
    unfold rnL
    rw [rn_str, strL1_rn h1]
def tupStr : D → Option (List Str)
  | .tup ds => (strL1 ds).bind fun zs => if zs.isEmpty then none else some zs
  | _ => none
def cCnt (s t : SE) : SE := fun Δ => (s Δ).bind fun d => (ofO (tupStr d)).bind fun zs => (t Δ).bind fun y => match y with
  | .str z => .ret (.int (zs.dropLast.count z : Nat))
  | _ => .fail
theorem i_cutCnt {j : Nat} {p1 p2 p3 sp cpos : Pos} (ha : IE γ X a s) (he : IE γ X e t)
    (hfew : ((backTo cpos (starEach [e] X.env)).all (fun x => !x.1) && (backToKw cpos (keywordEach [] X.env)).all (fun x => x.1.isSome) && decide ([e].length + ([] : List Keyword).length + (if ([] : List Keyword).isEmpty then 0 else 1) < 30)) = true := by rfl)
    (hline : (apos.endLine == cpos.line) = true := by rfl) (hs : starEach [e] X.env = [(false, eval e X.env)] := by rfl)
    (hbase : attributeBase (.Subscript a (.Slice none (some (.UnaryOp .USub (.Constant (.int 1) j p1) p2)) none p3) sp) "count" X.env (eval (.Subscript a (.Slice none (some (.UnaryOp .USub (.Constant (.int 1) j p1) p2)) none p3) sp) X.env) = eval (.Subscript a (.Slice none (some (.UnaryOp .USub (.Constant (.int 1) j p1) p2)) none p3) sp) X.env := by rfl) :
    IE γ X (.Call (.Attribute (.Subscript a (.Slice none (some (.UnaryOp .USub (.Constant (.int 1) j p1) p2)) none p3) sp) "count" apos) [e] [] cpos) (cCnt s t) := .mk fun b u M0 Δ Δr M n k S w => by
  refine ev_cutCnt (ha.go b u M0 Δ Δr M n _ S ((wpB_bind.1 w).mono fun d n1 w1 M1 A1 => ?_)) hfew hline hs hbase
  obtain ⟨zs, h1, w1a⟩ := wpB_ofO (wpB_bind.1 w1)
  unfold tupStr at h1
  split at h1
  · rename_i ds
    obtain ⟨ys, h2, h3⟩ := Option.bind_eq_some_iff.mp h1
    split at h3
    · cases h3
    · rename_i ne
      cases h3
      rw [rn_tup, strL1_rn h2]
      refine ⟨⟨ds, zs, rfl, h2, fun z => ne (by rw [z]; rfl)⟩, he.go b u M0 Δ Δr M1 n1 _ (S.aft A1) ((wpB_bind.1 w1a).mono fun y n2 w2 M2 A2 => ?_)⟩
      split at w2
      · rename_i z
        have w3 := w2 M2 (A1.trans A2)
        rw [rn_int] at w3
        refine ⟨_, ?_, w3⟩
        rw [rn_str]
        show (strL1 ds).bind _ = _
        rw [h2]
        show (if zs.isEmpty then none else _) = _
        rw [if_neg ne]
      · exact w2.elim
  · cases h1
/-! ### dict comprehensions -/
theorem dputD_rn {ρ : Nat → Addr} (ks : List Key) (ds : List D) (k : Key) (r : D) : dputD ks (rnL ρ ds) k (rn ρ r) = ((dputD ks ds k r).1, rnL ρ (dputD ks ds k r).2) := by
  unfold dputD
  split
  · rw [rnL_map, rnL_map, List.map_map, List.zip_map_right, List.map_map]
    congr 1
    apply List.map_congr_left
    intro q _
    show (if q.1 = k then rn ρ r else rn ρ q.2) = rn ρ (if q.1 = k then r else q.2)
    split <;> rfl
  · rw [rnL_app]
    simp only [rnL]
def dcP (tg : Tg) (t : SB) (kx vx : SE) (Δ : List Sl) : List Key → List D → List D → Pg D
  | ck, cd, [] => .ret (.dct ck cd)
  | ck, cd, d :: ds => (ofO (tgS tg d Δ)).bind fun Δ1 => (t Δ1).bind fun c => if c = true then (kx Δ1).bind fun r => (ofO (keyOf r)).bind fun q => (vx Δ1).bind fun v => dcP tg t kx vx Δ (dputD ck cd q v).1 (dputD ck cd q v).2 ds else dcP tg t kx vx Δ ck cd ds
def cDc (tg : Tg) (vs : List Nat) (it : SA) (t : SB) (kx vx : SE) : SE := fun Δ => (it Δ).bind fun ds => if ds.length ≤ lim then dcP tg t kx vx (wipeS Δ vs) [] [] ds else .fail
theorem dput_len1 (ks : List Key) (ds : List D) (k : Key) (r : D) : (dputD ks ds k r).1.length ≤ ks.length + 1 := by
  unfold dputD
  split
  · show ks.length ≤ _; omega
  · simp
theorem i_dc {scope : Scope} {own : List (Str × Nat)} {kx vx iter : Expr} {ifs : List Expr} {sl : List Nat} {tgt : Tg} {it : SA} {tb : SB} {sk sv : SE} (hc : X.calm = true) (hN : X.N.Nodup) (ok : BlkOk X.N X.env.scope scope own) (hl : ifs.length ≤ 1) (hI : II γ X tg iter it) (hsl : ∀ j ∈ sl, j ∈ own.map (·.2))
    (hG : ∀ s H C cl fp, GT (Blk X scope s H C cl fp) tg tgt sl) (hT : ∀ s H C cl fp, ITs γ (Blk X scope s H C cl fp) ifs tb) (hK : ∀ s H C cl fp, IE γ (Blk X scope s H C cl fp) kx sk) (hE : ∀ s H C cl fp, IE γ (Blk X scope s H C cl fp) vx sv)
    (hs : ∀ x, foldedSetIterable iter X.env x = pure x := by intro _; rfl) : IE γ X (.DictComp kx vx [⟨tg, iter, ifs, 0⟩] scope pos) (cDc tgt (own.map (·.2)) it tb sk sv) := .mk fun b u M0 Δ Δr M n k S w => by
  refine ev_dc hc hN ok hl (hI.go b u M0 Δ Δr M n _ S ((wpB_bind.1 w).mono fun ds n1 w1 M1 A1 => ?_)) hs
  generalize own.map (·.2) = vs at *
  split at w1
  · rename_i hlim
    refine ⟨fun i ck cd M' => ∃ n' cd0, cd = rnL (rho γ u) cd0 ∧ Aft b u M M' n' ∧ ck.length ≤ i ∧ wpB b n' (dcP tgt tb sk sv (wipeS Δ vs) ck cd0 (ds.drop i)) fun r n2 => ∀ M2, Aft b u M M2 n2 → k (rn (rho γ u) r) M2, ⟨n1, [], by unfold rnL; rfl, A1, Nat.le_refl _, by rw [List.drop_zero]; exact w1⟩, ?_, ?_⟩
    · rintro i d ck cd M' hd ⟨n', cd0, rfl, A, hlen, w2⟩
      rw [rnL_get] at hd
      obtain ⟨d0, hd0, rfl⟩ := Option.map_eq_some_iff.mp hd
      have hi := (List.getElem?_eq_some_iff.mp hd0).1
      have hdr : ds.drop i = d0 :: ds.drop (i + 1) := by
        rw [List.drop_eq_getElem_cons hi]
        congr 1
        exact (List.getElem?_eq_some_iff.mp hd0).2
      rw [hdr] at w2
      obtain ⟨Δ1, h1, w3⟩ := wpB_ofO (wpB_bind.1 w2)
      have S2 : Rel (rho γ u) u.2 b M0 (wipeS Δ vs) (wipeD Δr vs) M' := (S.rel.keep A.keep).wipe vs
      obtain ⟨f1, r1⟩ := tg_rel S2 h1
      have S3 : SI γ b u M0 Δ1 (tgR tgt (rn (rho γ u) d0) (wipeD Δr vs)) M' n' := ⟨r1, A.urn, S.k0.trans A.keep⟩
      refine ⟨by rw [lim_eq]; omega, _, sl, hsl, fun s H C cl fp => hG s H C cl fp _ _ f1, (fun c M2 => ∃ n2, Aft b u M' M2 n2 ∧ wpB b n2 (if c = true then (sk Δ1).bind fun r => (ofO (keyOf r)).bind fun q => (sv Δ1).bind fun v => dcP tgt tb sk sv (wipeS Δ vs) (dputD ck cd0 q v).1 (dputD ck cd0 q v).2 (ds.drop (i + 1)) else dcP tgt tb sk sv (wipeS Δ vs) ck cd0 (ds.drop (i + 1))) fun r n2 => ∀ M2, Aft b u M M2 n2 → k (rn (rho γ u) r) M2), fun s H C cl fp => ?_, ?_⟩
      · exact (hT s H C cl fp).go b u M0 Δ1 _ M' n' _ S3 ((wpB_bind.1 w3).mono fun c n2 w4 M2 A2 => ⟨n2, A2, w4⟩)
      · rintro c M2 ⟨n2, A2, w4⟩
        have S4 := S3.aft A2
        cases c with
        | true =>
          rw [if_pos rfl] at w4 ⊢
          refine ⟨fun r M3 => ∃ r0 n3, r = rn (rho γ u) r0 ∧ Aft b u M2 M3 n3 ∧ wpB b n3 ((ofO (keyOf r0)).bind fun q => (sv Δ1).bind fun v => dcP tgt tb sk sv (wipeS Δ vs) (dputD ck cd0 q v).1 (dputD ck cd0 q v).2 (ds.drop (i + 1))) fun r n2 => ∀ M2, Aft b u M M2 n2 → k (rn (rho γ u) r) M2, fun s H C cl fp => ?_, ?_⟩
          · exact (hK s H C cl fp).go b u M0 Δ1 _ M2 n2 _ S4 ((wpB_bind.1 w4).mono fun r n3 w5 M3 A3 => ⟨r, n3, rfl, A3, w5⟩)
          · rintro r M3 ⟨r0, n3, rfl, A3, w5⟩
            obtain ⟨q, hq, w6⟩ := wpB_ofO (wpB_bind.1 w5)
            have S5 := S4.aft A3
            refine ⟨q, by rw [keyOf_rn hq]; exact hq, fun r M4 => ∃ v0 n4, r = rn (rho γ u) v0 ∧ Aft b u M3 M4 n4 ∧ wpB b n4 (dcP tgt tb sk sv (wipeS Δ vs) (dputD ck cd0 q v0).1 (dputD ck cd0 q v0).2 (ds.drop (i + 1))) fun r n2 => ∀ M2, Aft b u M M2 n2 → k (rn (rho γ u) r) M2, fun s H C cl fp => ?_, ?_⟩
            · exact (hE s H C cl fp).go b u M0 Δ1 _ M3 n3 _ S5 ((wpB_bind.1 w6).mono fun v n4 w7 M4 A4 => ⟨v, n4, rfl, A4, w7⟩)
            · rintro r2 M4 ⟨v0, n4, rfl, A4, w7⟩
              rw [dputD_rn]
              exact ⟨n4, _, rfl, ((A.trans A2).trans A3).trans A4, Nat.le_trans (dput_len1 _ _ _ _) (by omega), w7⟩
        | false =>
          rw [if_neg Bool.false_ne_true] at w4 ⊢
          exact ⟨n2, cd0, rfl, A.trans A2, by omega, w4⟩
    · rintro ck cd M' ⟨n', cd0, rfl, A, hlen, w2⟩
      rw [rnL_len, List.drop_length] at w2
      have w3 := w2 M' A
      rw [rn_dct] at w3
      exact w3
  · exact w1.elim
end
end DL
end
section
set_option Elab.async false
set_option linter.all false
set_option maxRecDepth 100000
/-! DL: static methods; tuples of the module's top -/
namespace DL
open PySem L2
section
variable {X : Cx} {pins : List (Addr × Obj)} {σ : L2.St} {H : Hp} {s : Shared} {C q g : Addr} {mc : Value} {m : Str} {A : Around} {E : Value → Shared → Prop}
end
section
variable {X : Cx} {k : Nat} {C q g : Addr} {fd : FuncData} {ps : List Str} {mc : Value} {sp : Sp} {E : XK} {m : Str} {e o : Expr} {es : List Expr} {ta : TE} {t : TA} {pos apos : Pos} {dvs : List V} {ds : List Value} {pl : PySem.Sem Bool}
end
/-- a staticmethod that can be called -/
structure StaD (P : Program) (w : World) (K : PySem.W.Frag) (mg : Str → Option Value) (base : Heap) (C : Addr) (m : Str) (n : Nat) (sp : SpD) : Prop where
  ex : ∃ f fd ps q, FnOk P w K mg base CX0 n f fd ps (spOf K sp) ∧ ClX.CRead K C (.type "type") ∧ SMet K C (.type "type") m q f ∧ PySem.W.keepIn K (.ref f) = true ∧ Binds K fd ps []
section
variable {X : Cx} {e o : Expr} {es : List Expr} {Δ : DS} {M : Store} {k : DK} {p pos apos : Pos} {x m : Str} {C : Addr} {pl : PySem.Sem Bool}
end
end DL
end
section
set_option Elab.async false
set_option linter.all false
set_option maxRecDepth 100000
set_option maxHeartbeats 1000000
/-! zip of any two iterators, as what dict() takes -/
namespace DL
open PySem
theorem ne2 {a b x y : Addr} (h : b = x ∨ b = y) (n1 : x ≠ a) (n2 : y ≠ a) : b ≠ a := h.elim (fun e => by rw [e]; exact n1) fun e => by rw [e]; exact n2
/-- an iterator over the items xs, at it, of what lies at l -/
structure Src (pr : Program) (w : World) (it l : Addr) (xs : Array Value) (P : Nat → Heap → Prop) : Prop where
  keep : ∀ {k : Nat} {h h' : Heap}, P k h → (∀ b o, b = it ∨ b = l → h.get? b = some o → h'.get? b = some o) → P k h'
  there : ∀ {k : Nat} {h : Heap}, P k h → (∃ o, h.get? it = some o) ∧ ∃ o, h.get? l = some o
  next : ∀ {A : Around} {s : Shared} {Q : Value → Shared → Prop} {E : Value → Shared → Prop} {k : Nat} {x : Value}, P k s.heap → xs[k]? = some x → (∀ g, P (k + 1) g → Heap.SameBut it s.heap g → Q x { s with heap := g }) → wpAny (model pr w) A (Builtin.SmallTypes.nextOf (.ref it)) Q E s
  stop : ∀ {A : Around} {s : Shared} {Q : Value → Shared → Prop} {E : Value → Shared → Prop} {k : Nat}, A.handled = none → P k s.heap → xs[k]? = none → (∀ g e, Heap.ExtBut it s.heap g → (∃ o, g.get? e = some o ∧ o.cls = .type "StopIteration") → E (.ref e) { s with heap := g }) → wpAny (model pr w) A (Builtin.SmallTypes.nextOf (.ref it)) Q E s
theorem src_list {pr : Program} {w : World} {it l : Addr} {xs : Array Value} (hn : l ≠ it) : Src pr w it l xs fun k h => h.IsListIter it l k ∧ h.IsList l xs where
  keep := fun ⟨a, b⟩ k => ⟨a.at fun o e => k _ o (.inl rfl) e, b.at fun o e => k _ o (.inr rfl) e⟩
  there := fun ⟨⟨o, a, _⟩, ⟨o2, b, _⟩⟩ => ⟨⟨o, a⟩, o2, b⟩
  next := fun ⟨a, b⟩ hx k => wpAny_nextOf_list_item a b hx fun g c sb => k g ⟨c, b.extBut sb.extBut hn⟩ sb
  stop := fun hh ⟨a, b⟩ hx k => wpAny_nextOf_list_end hh a b hx k
theorem src_tup {pr : Program} {w : World} {it l : Addr} {xs : Array Value} (hn : l ≠ it) : Src pr w it l xs fun k h => h.IsTupleIter it l k ∧ h.IsTuple l xs where
  keep := fun ⟨a, b⟩ k => ⟨a.at fun o e => k _ o (.inl rfl) e, b.at fun o e => k _ o (.inr rfl) e⟩
  there := fun ⟨⟨o, a, _⟩, ⟨o2, b, _⟩⟩ => ⟨⟨o, a⟩, o2, b⟩
  next := fun ⟨a, b⟩ hx k => RZ.nextOf_tuple_item a b hx fun g c sb => k g ⟨c, b.extBut sb.extBut hn⟩ sb
  stop := fun hh ⟨a, b⟩ hx k => RZ.nextOf_tuple_end hh a b hx k
section
variable {pr : Program} {w : World} {A : Around} {E : Value → Shared → Prop} {s : Shared} {zz TI TO i1 i2 l1 l2 : Addr} {k1 k2 : Nat} {xs ys : Array Value} {P1 P2 : Nat → Heap → Prop}
theorem Src.step {it l a : Addr} {xs : Array Value} {P : Nat → Heap → Prop} (S : Src pr w it l xs P) {k : Nat} {h h' : Heap} (p : P k h) (sb : Heap.SameBut a h h') (n1 : it ≠ a) (n2 : l ≠ a) : P k h' :=
  S.keep p fun b o hb e => sb.extBut b o (ne2 hb n1 n2) e
theorem Src.push {it l : Addr} {xs : Array Value} {P : Nat → Heap → Prop} (S : Src pr w it l xs P) {k : Nat} {h : Heap} {o : Obj} (p : P k h) : P k (h.push o) := S.keep p fun b o hb e => Heap.get?_push_of_some _ e
/-- the first pair -/
theorem zipG_first {x y a b : Value} {Q : Value → Shared → Prop} (D : ZipApart zz TI TO i1 i2 l1 l2) (S1 : Src pr w i1 l1 xs P1) (S2 : Src pr w i2 l2 ys P2) (hz : IsZip s.heap zz TI TO .none) (hI : IsPair s.heap TI (.ref i1) (.ref i2)) (hO : IsPair s.heap TO a b)
    (p1 : P1 k1 s.heap) (p2 : P2 k2 s.heap) (hx : xs[k1]? = some x) (hy : ys[k2]? = some y)
    (hQ : ∀ g, IsZipHeld g zz TI TO s.heap.objs.size false → P1 (k1 + 1) g → P2 (k2 + 1) g → IsPair g s.heap.objs.size x y → (∀ c o, c ≠ zz → c ≠ TO → c ≠ i1 → c ≠ i2 → s.heap.get? c = some o → g.get? c = some o) → Q (.ref s.heap.objs.size) { s with heap := g }) :
    wpAny (model pr w) A (Builtin.«zip.__next__» ⟨[.ref zz], []⟩) (fun fin s' => ∃ v, fin = .done (.ret v) ∧ Q v s') E s := by
  show wpAny _ _ (field (.ref zz) 2 >>= _) _ _ _
  refine wpAny_bind (wpAny_field hz rfl (x := .bool false) rfl ?_); show wpAny _ _ (field (.ref zz) 3 >>= _) _ _ _
  refine wpAny_bind (wpAny_field hz rfl (x := .ref TI) rfl (wpAny_bind (wpAny_seqItems hI rfl ?_))); show wpAny _ _ (Builtin.SmallTypes.ownedTupleIsFree (.ref zz) >>= _) _ _ _
  refine wpAny_bind ?_; unfold Builtin.SmallTypes.ownedTupleIsFree
  refine wpAny_bind (wpAny_field hz rfl (x := .none) rfl (wpAny_pure ?_)); simp only [if_true]
  refine wpAny_bind (wpAny_rule (wpAny_bind (wpAny_field hz rfl (x := .ref TO) rfl (wpAny_bind (wpAny_setField_rec hz (by simp) fun g1 z1 b1 => ?_)))))
  replace z1 : IsZip g1 zz TI TO .ellipsis := z1
  refine wpAny_bind ?_; simp only [List.zipIdx_cons, List.zipIdx_nil, List.forIn_cons, List.forIn_nil]
  refine wpAny_bind (wpAny_bind (wpAny_onRaise ?_)); show wpAny _ _ (Builtin.SmallTypes.nextOf (.ref i1) >>= _) _ _ _
  refine wpAny_bind (S1.next (S1.step p1 b1 D.i1z D.l1z) hx fun g2 q1 b2 => wpAny_pure ?_)
  have o2 : IsPair g2 TO a b := b2.extBut _ _ D.TOi1 (b1.extBut _ _ D.TOz hO)
  refine wpAny_bind (wpAny_seqItems o2 rfl (wpAny_bind (wpAny_updateSeq_pair o2 fun g3 o3 b3 => wpAny_bind (wpAny_letGo (wpAny_pure ?_)))))
  replace o3 : IsPair g3 TO x b := o3
  refine wpAny_bind (wpAny_bind (wpAny_onRaise ?_)); show wpAny _ _ (Builtin.SmallTypes.nextOf (.ref i2) >>= _) _ _ _
  refine wpAny_bind (S2.next (S2.step (S2.step (S2.step p2 b1 D.i2z D.l2z) b2 D.i12.symm D.l2i1) b3 D.TOi2.symm D.l2TO) hy fun g4 q2 b4 => wpAny_pure ?_)
  have o4 : IsPair g4 TO x b := b4.extBut _ _ D.TOi2 o3
  refine wpAny_bind (wpAny_seqItems o4 rfl (wpAny_bind (wpAny_updateSeq_pair o4 fun g5 o5 b5 => wpAny_bind (wpAny_letGo (wpAny_pure (wpAny_pure ?_))))))
  replace o5 : IsPair g5 TO x y := o5
  refine wpAny_bind (wpAny_seqItems o5 rfl (wpAny_bind (wpAny_newTuple ?_)))
  have sz : g5.objs.size = s.heap.objs.size := by rw [b5.1, b4.1, b3.1, b2.1, b1.1]
  have z5 : IsZip g5 zz TI TO .ellipsis := b5.extBut _ _ D.TOz.symm (b4.extBut _ _ D.i2z.symm (b3.extBut _ _ D.TOz.symm (b2.extBut _ _ D.i1z.symm z1)))
  have k5 : ∀ c o, c ≠ zz → c ≠ TO → c ≠ i1 → c ≠ i2 → s.heap.get? c = some o → g5.get? c = some o := fun c o c1 c2 c3 c4 e => b5.extBut _ _ c2 (b4.extBut _ _ c4 (b3.extBut _ _ c2 (b2.extBut _ _ c3 (b1.extBut _ _ c1 e))))
  have r1 := S1.step (S1.step (S1.step q1 b3 D.TOi1.symm D.l1TO) b4 D.i12 D.l1i2) b5 D.TOi1.symm D.l1TO
  have r2 := S2.step q2 b5 D.TOi2.symm D.l2TO
  have zl : zz < g5.objs.size := Heap.lt_size z5
  show wpAny _ _ (Builtin.SmallTypes.ownedTupleHandOut (.ref zz) (.ref g5.objs.size) >>= _) _ _ _
  refine wpAny_bind ?_; unfold Builtin.SmallTypes.ownedTupleHandOut
  have z6 : IsZip (g5.push { cls := .type "tuple", data := .seq #[x, y] }) zz TI TO .ellipsis := Heap.get?_push_of_some _ z5
  refine wpAny_bind (wpAny_setField_rec z6 (by simp) fun g7 z7 b7 => ?_)
  replace z7 : IsZip g7 zz TI TO (rawInt g5.objs.size) := z7
  refine wpAny_setField_rec z7 (by simp) fun g8 z8 b8 => ?_
  replace z8 : IsZipHeld g8 zz TI TO g5.objs.size false := z8
  have up : ∀ c o, c ≠ zz → g5.get? c = some o → g8.get? c = some o := fun c o c1 e => b8.extBut _ _ c1 (b7.extBut _ _ c1 (Heap.get?_push_of_some _ e))
  have t8 : IsPair g8 g5.objs.size x y := b8.extBut _ _ (Nat.ne_of_gt zl) (b7.extBut _ _ (Nat.ne_of_gt zl) (Heap.get?_push_size _ rfl))
  rw [sz] at z8 t8
  refine wpAny_pure ⟨_, rfl, ?_⟩; show Q (.ref g5.objs.size) _
  rw [sz]
  exact hQ g8 z8 (S1.keep r1 fun c o hc e => up c o (ne2 hc D.i1z D.l1z) e) (S2.keep r2 fun c o hc e => up c o (ne2 hc D.i2z D.l2z) e) t8 fun c o c1 c2 c3 c4 e => up c o c1 (k5 c o c1 c2 c3 c4 e)
/-- a pair behind the first one -/
theorem zipG_more {T : Addr} {f : Bool} {oT : Obj} {x y : Value} {Q : Value → Shared → Prop} (D : ZipApart zz TI TO i1 i2 l1 l2) (S1 : Src pr w i1 l1 xs P1) (S2 : Src pr w i2 l2 ys P2) (hz : IsZipHeld s.heap zz TI TO T f) (hT : s.heap.get? T = some oT) (hI : IsPair s.heap TI (.ref i1) (.ref i2))
    (p1 : P1 k1 s.heap) (p2 : P2 k2 s.heap) (hx : xs[k1]? = some x) (hy : ys[k2]? = some y)
    (hQ : ∀ g, IsZipHeld g zz TI TO T true → P1 (k1 + 1) g → P2 (k2 + 1) g → IsPair g s.heap.objs.size x y → (∀ c o, c ≠ zz → c ≠ i1 → c ≠ i2 → s.heap.get? c = some o → g.get? c = some o) → Q (.ref s.heap.objs.size) { s with heap := g }) :
    wpAny (model pr w) A (Builtin.«zip.__next__» ⟨[.ref zz], []⟩) (fun fin s' => ∃ v, fin = .done (.ret v) ∧ Q v s') E s := by
  show wpAny _ _ (field (.ref zz) 2 >>= _) _ _ _
  refine wpAny_bind (wpAny_field hz rfl (x := .bool false) rfl ?_); show wpAny _ _ (field (.ref zz) 3 >>= _) _ _ _
  refine wpAny_bind (wpAny_field hz rfl (x := .ref TI) rfl (wpAny_bind (wpAny_seqItems hI rfl ?_))); show wpAny _ _ (Builtin.SmallTypes.ownedTupleIsFree (.ref zz) >>= _) _ _ _
  refine wpAny_bind (wpAny_tupleHeld_zip hz hT fun g1 z1 b1 => ?_); simp only [Bool.false_eq_true, if_false]
  refine wpAny_bind ?_; rw [← Array.forIn_toList]; simp only [List.forIn_cons, List.forIn_nil]
  refine wpAny_bind (wpAny_bind (wpAny_holding ?_)); show wpAny _ _ (Builtin.SmallTypes.nextOf (.ref i1) >>= _) _ _ _
  refine wpAny_bind (S1.next (s := { s with heap := g1 }) (S1.step p1 b1 D.i1z D.l1z) hx fun g2 q1 b2 => wpAny_pure (wpAny_pure ?_))
  refine wpAny_bind (wpAny_bind (wpAny_holding ?_)); show wpAny _ _ (Builtin.SmallTypes.nextOf (.ref i2) >>= _) _ _ _
  refine wpAny_bind (S2.next (s := { s with heap := g2 }) (S2.step (S2.step p2 b1 D.i2z D.l2z) b2 D.i12.symm D.l2i1) hy fun g3 q2 b3 => wpAny_pure (wpAny_pure (wpAny_pure ?_)))
  show wpAny _ _ (newTuple [x, y] >>= _) _ _ _; refine wpAny_bind (wpAny_newTuple ?_)
  have sz : g3.objs.size = s.heap.objs.size := by rw [b3.1, b2.1, b1.1]
  have z3 : IsZipHeld g3 zz TI TO T true := b3.extBut _ _ D.i2z.symm (b2.extBut _ _ D.i1z.symm z1)
  have r1 := S1.step q1 b3 D.i12 D.l1i2
  refine wpAny_pure ⟨_, rfl, ?_⟩; show Q (.ref g3.objs.size) _
  have t3 : IsPair (g3.push { cls := .type "tuple", data := .seq #[x, y] }) g3.objs.size x y := Heap.get?_push_size _ rfl
  rw [sz] at t3 ⊢
  exact hQ _ (Heap.get?_push_of_some _ z3) (S1.push r1) (S2.push q2) t3 fun c o c1 c2 c3 e => Heap.get?_push_of_some _ (b3.extBut _ _ c3 (b2.extBut _ _ c2 (b1.extBut _ _ c1 e)))
/-- no pair any more -/
theorem zipG_end {T : Addr} {f : Bool} {oT : Obj} {Q : Fin → Shared → Prop} (hh : A.handled = none) (D : ZipApart zz TI TO i1 i2 l1 l2) (S1 : Src pr w i1 l1 xs P1) (hz : IsZipHeld s.heap zz TI TO T f) (hT : s.heap.get? T = some oT) (hI : IsPair s.heap TI (.ref i1) (.ref i2))
    (p1 : P1 k1 s.heap) (hx : xs[k1]? = none) (hE : ∀ g e, (∀ c o, c ≠ zz → c ≠ i1 → s.heap.get? c = some o → g.get? c = some o) → (∃ o, g.get? e = some o ∧ o.cls = .type "StopIteration") → E (.ref e) { s with heap := g }) :
    wpAny (model pr w) A (Builtin.«zip.__next__» ⟨[.ref zz], []⟩) Q E s := by
  show wpAny _ _ (field (.ref zz) 2 >>= _) _ _ _
  refine wpAny_bind (wpAny_field hz rfl (x := .bool false) rfl ?_); show wpAny _ _ (field (.ref zz) 3 >>= _) _ _ _
  refine wpAny_bind (wpAny_field hz rfl (x := .ref TI) rfl (wpAny_bind (wpAny_seqItems hI rfl ?_))); show wpAny _ _ (Builtin.SmallTypes.ownedTupleIsFree (.ref zz) >>= _) _ _ _
  refine wpAny_bind (wpAny_tupleHeld_zip hz hT fun g1 z1 b1 => ?_); simp only [Bool.false_eq_true, if_false]
  refine wpAny_bind ?_; rw [← Array.forIn_toList]; simp only [List.forIn_cons, List.forIn_nil]
  refine wpAny_bind (wpAny_bind (wpAny_holding ?_)); show wpAny _ _ (Builtin.SmallTypes.nextOf (.ref i1) >>= _) _ _ _
  refine wpAny_bind (S1.stop (s := { s with heap := g1 }) hh (S1.step p1 b1 D.i1z D.l1z) hx fun g2 e b2 he => ?_)
  exact hE g2 e (fun c o c1 c2 x => b2 _ _ c2 (b1.extBut _ _ c1 x)) he
end
/-- where a zip stands: not begun, or its first pair still there -/
def ZipSt (P1 P2 : Nat → Heap → Prop) (d zz TI TO i1 i2 : Addr) (i : Nat) (h : Heap) : Prop := IsPair h TI (.ref i1) (.ref i2) ∧ P1 i h ∧ P2 i h ∧
  ((i = 0 ∧ IsZip h zz TI TO .none ∧ ∃ a b, IsPair h TO a b) ∨ ∃ T f oT, IsZipHeld h zz TI TO T f ∧ h.get? T = some oT ∧ T ≠ zz ∧ T ≠ i1 ∧ T ≠ i2 ∧ T ≠ d)
theorem zip_arg {pr : Program} {w : World} {zz TI TO i1 i2 l1 l2 : Addr} {xs ys : Array Value} {P1 P2 : Nat → Heap → Prop} (D : ZipApart zz TI TO i1 i2 l1 l2) (S1 : Src pr w i1 l1 xs P1) (S2 : Src pr w i2 l2 ys P2) (h0 : 0 < xs.size) (hl : xs.size = ys.size) :
    PairArg pr w "zip" zz [zz, TI, TO, i1, i2, l1, l2] [zz, TO, i1, i2] xs.size (fun i k v => xs[i]? = some k ∧ ys[i]? = some v) (fun h => IsZip h zz TI TO .none ∧ IsPair h TI (.ref i1) (.ref i2) ∧ (∃ a b, IsPair h TO a b) ∧ P1 0 h ∧ P2 0 h) where
  type := fun s ok => ⟨_, ok.1, rfl⟩
  notDict := by decide
  keep := fun h h' ⟨a1, a2, ⟨a, b, a3⟩, a4, a5⟩ hk => ⟨hk _ _ a1, hk _ _ a2, ⟨a, b, hk _ _ a3⟩, S1.keep a4 fun c o _ e => hk c o e, S2.keep a5 fun c o _ e => hk c o e⟩
  there := fun h ⟨a1, a2, ⟨a, b, a3⟩, a4, a5⟩ c hc => by
    obtain ⟨e1, e2⟩ := S1.there a4
    obtain ⟨e3, e4⟩ := S2.there a5
    simp only [List.mem_cons, List.not_mem_nil, or_false] at hc
    rcases hc with rfl | rfl | rfl | rfl | rfl | rfl | rfl
    all_goals first | exact ⟨_, a1⟩ | exact ⟨_, a2⟩ | exact ⟨_, a3⟩ | exact e1 | exact e2 | exact e3 | exact e4
  sub := fun c hc => by
    simp only [List.mem_cons, List.not_mem_nil, or_false] at hc ⊢
    rcases hc with rfl | rfl | rfl | rfl <;> simp
  noKeys := fun A s Q E hA ok k => getAttrOr_miss_zip ok.1 rfl rfl rfl zip_no_keys (by decide +kernel) hA k
  iter := fun A s d Q E hA ⟨a1, a2, ⟨a, b, a3⟩, a4, a5⟩ hd hdf k => by
    simp only [List.mem_cons, List.not_mem_nil, or_false, not_or] at hdf
    obtain ⟨n1, n2, n3, n4, n5, n6, n7⟩ := hdf
    refine wpAny_pyIter_zip a1 (k zz [zz, TO, i1, i2] (ZipSt P1 P2 d zz TI TO i1 i2) s.heap s.toks ?_ ⟨a2, a4, a5, .inl ⟨rfl, a1, a, b, a3⟩⟩ (fun _ _ e => e) fun b hb => .inl hb)
    exact {
      off := fun hm => by
        simp only [List.mem_cons, List.not_mem_nil, or_false] at hm
        exact hm.elim n1 fun e => e.elim n3 fun e => e.elim n4 n5
      frame := fun i g g' ⟨c1, c2, c3, c4⟩ hk => by
        refine ⟨hk _ _ (Ne.symm n2) c1, S1.keep c2 fun b o hb e => hk b o (ne2 hb (Ne.symm n4) (Ne.symm n6)) e, S2.keep c3 fun b o hb e => hk b o (ne2 hb (Ne.symm n5) (Ne.symm n7)) e, ?_⟩
        rcases c4 with ⟨c0, c4, x, y, c5⟩ | ⟨T, f, oT, c4, c5, r1, r2, r3, r4⟩
        · exact .inl ⟨c0, hk _ _ (Ne.symm n1) c4, x, y, hk _ _ (Ne.symm n3) c5⟩
        · exact .inr ⟨T, f, oT, hk _ _ (Ne.symm n1) c4, hk _ _ r4 c5, r1, r2, r3, r4⟩
      item := fun i s1 Q1 E1 hi ⟨c1, c2, c3, c4⟩ hds hQ => by
        have ex := Array.getElem?_eq_getElem hi
        have ey := Array.getElem?_eq_getElem (hl ▸ hi)
        have lt : ∀ {c : Addr}, (∃ o, s1.heap.get? c = some o) → s1.heap.objs.size ≠ c := fun ⟨o, e⟩ => Nat.ne_of_gt (Heap.lt_size e)
        have u1 := lt (S1.there c2).1
        have u2 := lt (S2.there c3).1
        have hT : s1.TypeIs (.ref zz) "zip" := c4.elim (fun q => ⟨_, q.2.1, rfl⟩) fun ⟨T, f, oT, q, _⟩ => ⟨_, q, rfl⟩
        unfold pyNext
        refine wpAny_bind (wpAny_attempt (wpAny_callSpecial?_slot (name := Str.ofString "__next__") hT F.slot_zip_next (wpAny_call_entry F.slot_zip_next hT F.entry_zip_next ?_ (F.args_zip_next_1 _))))
        rcases c4 with ⟨c0, c4, x, y, c5⟩ | ⟨T, f, oT, c4, c5, r1, r2, r3, r4⟩
        · refine zipG_first D S1 S2 c4 c1 c5 c2 c3 ex ey fun g m1 m2 m3 m4 hk => wpAny_pure ?_
          exact hQ s1.heap.objs.size _ _ g s1.toks ⟨ex, ey⟩ (.inl ⟨_, m4, rfl, _, rfl⟩) ⟨hk _ _ D.TIz D.TITO D.TIi1 D.TIi2 c1, m2, m3, .inr ⟨s1.heap.objs.size, false, _, m1, m4, lt ⟨_, c4⟩, u1, u2, Nat.ne_of_gt hds⟩⟩
            fun c o hc e => hk c o (fun x => hc (by simp [x])) (fun x => hc (by simp [x])) (fun x => hc (by simp [x])) (fun x => hc (by simp [x])) e
        · refine zipG_more D S1 S2 c4 c5 c1 c2 c3 ex ey fun g m1 m2 m3 m4 hk => wpAny_pure ?_
          exact hQ s1.heap.objs.size _ _ g s1.toks ⟨ex, ey⟩ (.inl ⟨_, m4, rfl, _, rfl⟩) ⟨hk _ _ D.TIz D.TIi1 D.TIi2 c1, m2, m3, .inr ⟨T, true, oT, m1, hk _ _ r1 r2 r3 c5, r1, r2, r3, r4⟩⟩
            fun c o hc e => hk c o (fun x => hc (by simp [x])) (fun x => hc (by simp [x])) (fun x => hc (by simp [x])) e
      done := fun s1 Q1 E1 ⟨c1, c2, c3, c4⟩ hQ => by
        rcases c4 with ⟨c0, _⟩ | ⟨T, f, oT, c4, c5, r1, r2, r3, r4⟩
        · omega
        · have hT : s1.TypeIs (.ref zz) "zip" := ⟨_, c4, rfl⟩
          unfold pyNext
          refine wpAny_bind (wpAny_attempt (wpAny_callSpecial?_slot (name := Str.ofString "__next__") hT F.slot_zip_next (wpAny_call_entry F.slot_zip_next hT F.entry_zip_next (zipG_end hA D S1 c4 c5 c1 c2 (Array.getElem?_eq_none (Nat.le_refl _)) fun g e hk ⟨o, ho, hc⟩ => ?_) (F.args_zip_next_1 _))))
          refine wpAny_bind (wpAny_isInstance (T := "StopIteration") (b := true) ⟨o, ho, hc⟩ isSubtype_stop (wpAny_pure ?_))
          exact hQ g s1.toks fun c o hc e => hk c o (fun x => hc (by simp [x])) (fun x => hc (by simp [x])) e }
/-! the zip of a list and a tuple -/
abbrev zmA (h : Heap) (l1 l2 : Addr) : Heap := (h.push { cls := .type "list_iterator", data := .fields #[.ref l1, .int 0 0] }).push { cls := .type "tuple_iterator", data := .fields #[.ref l2, .int 0 0] }
abbrev zmB (h : Heap) (l1 l2 : Addr) : Heap := ((zmA h l1 l2).push { cls := .type "tuple", data := .seq #[.ref h.objs.size, .ref (h.push { cls := .type "list_iterator", data := .fields #[.ref l1, .int 0 0] }).objs.size] }).push { cls := .type "tuple", data := .seq #[.none, .none] }
abbrev zmC (h : Heap) (l1 l2 : Addr) : Heap := (zmB h l1 l2).push { cls := .type "zip", data := .fields #[.none, .bool false, .bool false, .ref (zmA h l1 l2).objs.size, .ref ((zmA h l1 l2).push { cls := .type "tuple", data := .seq #[.ref h.objs.size, .ref (h.push { cls := .type "list_iterator", data := .fields #[.ref l1, .int 0 0] }).objs.size] }).objs.size] }
theorem meets_zipM (l1 l2 : Addr) (xs ys : Array Value) : Meets (Builtin.«zip.__new__» ⟨[.type "zip", .ref l1, .ref l2], []⟩) (fun _ R s => s.heap.IsList l1 xs ∧ s.heap.IsTuple l2 ys ∧ R (.ok (.ret (.ref (zmB s.heap l1 l2).objs.size))) { s with heap := zmC s.heap l1 l2 }) :=
  .of_wp fun pr w A R s h => by
    obtain ⟨hp, g, d, tk, os⟩ := s; obtain ⟨m1, m2, h⟩ := h; have hsub := sub_zip
    have e1 : Heap.IsList (Shared.heap ⟨hp, g, d, tk, os⟩) l1 xs := m1
    have e2 : Heap.IsTuple (Shared.heap ⟨hp.push { cls := .type "list_iterator", data := .fields #[.ref l1, .int 0 0] }, g, d, tk, os⟩) l2 ys := Heap.IsTuple.push m2 _
    wp_walk using wpAny_pyIter_list e1, wpAny_pyIter_tuple e2
    exact ⟨_, rfl, h⟩
theorem call_zipM {pr : Program} {w : World} {A : Around} {E : Value → Shared → Prop} {s : Shared} {l1 l2 : Addr} {xs ys : Array Value} {Q : Value → Shared → Prop} (m1 : s.heap.IsList l1 xs) (m2 : s.heap.IsTuple l2 ys)
    (h : ∀ g, IsZip g (s.heap.objs.size + 4) (s.heap.objs.size + 2) (s.heap.objs.size + 3) .none → IsPair g (s.heap.objs.size + 2) (.ref s.heap.objs.size) (.ref (s.heap.objs.size + 1)) → IsPair g (s.heap.objs.size + 3) .none .none → g.IsListIter s.heap.objs.size l1 0 → g.IsTupleIter (s.heap.objs.size + 1) l2 0 →
      (∀ c o, s.heap.get? c = some o → g.get? c = some o) → Q (.ref (s.heap.objs.size + 4)) { s with heap := g }) : wpAny (model pr w) A (call (.type "zip") [.ref l1, .ref l2]) Q E s := by
  refine callType_new F.called_zip (by decide) (F.typeCall_zip_2 _ _) (F.newCall_zip_2 _ _) (fun obj => F.args_object_init_3 obj _ _) F.entry_zip_new (meets_zipM l1 l2 xs ys) ⟨m1, m2, ?_⟩
  have e1 : (s.heap.push { cls := .type "list_iterator", data := .fields #[.ref l1, .int 0 0] }).objs.size = s.heap.objs.size + 1 := Heap.size_push ..
  have e2 : (zmA s.heap l1 l2).objs.size = s.heap.objs.size + 2 := by rw [Heap.size_push, e1]
  have e3 : ((zmA s.heap l1 l2).push { cls := .type "tuple", data := .seq #[.ref s.heap.objs.size, .ref (s.heap.push { cls := .type "list_iterator", data := .fields #[.ref l1, .int 0 0] }).objs.size] }).objs.size = s.heap.objs.size + 3 := by rw [Heap.size_push, e2]
  have e4 : (zmB s.heap l1 l2).objs.size = s.heap.objs.size + 4 := by rw [Heap.size_push, e3]
  have v5 : (zmC s.heap l1 l2).get? (zmB s.heap l1 l2).objs.size = some _ := Heap.get?_push_size _ rfl
  have v4 : (zmC s.heap l1 l2).get? ((zmA s.heap l1 l2).push { cls := .type "tuple", data := .seq #[.ref s.heap.objs.size, .ref (s.heap.push { cls := .type "list_iterator", data := .fields #[.ref l1, .int 0 0] }).objs.size] }).objs.size = some _ := Heap.get?_push_of_some _ (Heap.get?_push_size _ rfl)
  have v3 : (zmC s.heap l1 l2).get? (zmA s.heap l1 l2).objs.size = some _ := Heap.get?_push_of_some _ (Heap.get?_push_of_some _ (Heap.get?_push_size _ rfl))
  have v2 : (zmC s.heap l1 l2).get? (s.heap.push { cls := .type "list_iterator", data := .fields #[.ref l1, .int 0 0] }).objs.size = some _ := Heap.get?_push_of_some _ (Heap.get?_push_of_some _ (Heap.get?_push_of_some _ (Heap.get?_push_size _ rfl)))
  have v1 : (zmC s.heap l1 l2).get? s.heap.objs.size = some _ := Heap.get?_push_of_some _ (Heap.get?_push_of_some _ (Heap.get?_push_of_some _ (Heap.get?_push_of_some _ (Heap.get?_push_size _ rfl))))
  show _ ∧ _
  rw [e2, e3, e4] at v5
  rw [e1, e2] at v3
  rw [e3] at v4
  rw [e1] at v2
  rw [e4]
  exact ⟨⟨_, v5, rfl⟩, h _ v5 v3 v4 ⟨_, v1, rfl, rfl⟩ ⟨_, v2, rfl, rfl⟩ fun c o x => Heap.get?_push_of_some _ (Heap.get?_push_of_some _ (Heap.get?_push_of_some _ (Heap.get?_push_of_some _ (Heap.get?_push_of_some _ x))))⟩
end DL
end
section
set_option Elab.async false
set_option linter.all false
set_option maxRecDepth 100000
/-! dict(zip(list, tuple)), list(range(n)) -/
namespace DL
open PySem PySem.Spec PyProof.Rows L2
theorem far4 {c n : Nat} (h : c < n) : ¬ c = n + 4 ∧ ¬ c = n + 3 ∧ ¬ c = n ∧ ¬ c = n + 1 := by omega
theorem le4 {m n : Nat} (h : n + 4 < m) : n ≤ m := by omega
theorem putK_new {k : Key} {v : V} {acc : List (Key × V)} (h : k ∉ acc.map (·.1)) : putK acc k v = acc ++ [(k, v)] := by
  unfold putK
  rw [if_neg]
  intro e
  obtain ⟨p, hp, e2⟩ := List.any_eq_true.mp e
  exact h (List.mem_map.mpr ⟨p, hp, of_decide_eq_true e2⟩)
theorem merge_nd : ∀ (more acc : List (Key × V)), ((acc ++ more).map (·.1)).Nodup → mergeK acc more = acc ++ more
  | [], acc, _ => by rw [List.append_nil]; rfl
  | kv :: more, acc, h => by
    show mergeK (putK acc kv.1 kv.2) more = _
    have h2 : ((acc ++ [kv] ++ more).map (·.1)).Nodup := by rw [List.append_assoc]; exact h
    have hk : kv.1 ∉ acc.map (·.1) := by
      rw [List.map_append, List.nodup_append] at h
      exact fun m => h.2.2 _ m _ (by simp) rfl
    rw [putK_new hk, merge_nd more (acc ++ [kv]) h2, List.append_assoc]
    rfl
theorem zip_fst {α β : Type} : ∀ {xs : List α} {ys : List β}, xs.length = ys.length → (xs.zip ys).map (·.1) = xs
  | [], [], _ => rfl
  | x :: xs, y :: ys, h => by rw [List.zip_cons_cons, List.map_cons, zip_fst (by simpa using h)]
  | [], _ :: _, h => by simp at h
  | _ :: _, [], h => by simp at h
theorem kv_zip {ys : List V} {vs : List Value} (h : Vals ys vs) : ∀ {ks : List Key}, ks.length = ys.length → KV (ks.zip ys) (ks.zip vs) := by
  induction h with
  | nil => intro ks l; cases ks with
    | nil => exact .nil
    | cons a b => simp at l
  | cons r t ih => intro ks l; cases ks with
    | nil => simp at l
    | cons a b => exact .cons ⟨rfl, r⟩ (ih (by simpa using l))
section
variable {X : Cx} {a b : Expr} {pos p pos2 p2 : Pos}
def tDZ (K : PySem.W.Frag) (ta : TA) : TE := fun σ H Q => ta σ H fun vs H1 => ∃ (q t : Addr) (ks : List Key) (ys : List V), vs = [.ref q, .ref t] ∧ SqL K H1 q (ks.map kV) ∧ SqT K H1 t ys ∧ ks.length = ys.length ∧ 0 < ks.length ∧ ks.Nodup ∧ ∀ p, H1 p = none → Q (.ref p) (upd H1 p (.dK (ks.zip ys)))
theorem pe_dz {ta : TA} (hc : X.calm = true) (hg : Gl X "dict") (hm : X.mg "dict" = none) (hg2 : Gl X "zip") (hm2 : X.mg "zip" = none) (ha : PA X [a, b] ta) (hs : starEach [a, b] X.env = (false, eval a X.env) :: starEach [b] X.env := by rfl) (hpl : (backTo pos2 (starEach [b] X.env)).any (·.1) = false := by rfl)
    (na : starEach [.Call (.Name "zip" p2) [a, b] [] pos2] X.env = (false, eval (.Call (.Name "zip" p2) [a, b] [] pos2) X.env) :: starEach [] X.env := by rfl) : PE X (.Call (.Name "dict" p) [.Call (.Name "zip" p2) [a, b] [] pos2] [] pos) (tDZ X.K ta) := by
  refine ⟨fun pins s σ H Q I h => ?_⟩
  have inner : wpAny (model X.prog X.w) X.A (eval (.Call (.Name "zip" p2) [a, b] [] pos2) X.env) (fun x s2 => ∃ (s1 : Shared) (H1 : Hp) (q t : Addr) (ks : List Key) (ys : List V) (g : Heap) (us ws : List Value), Inv X pins σ H1 s1 ∧ x = .ref (s1.heap.objs.size + 4) ∧ s2 = { s1 with heap := g } ∧ Vals (ks.map kV) us ∧ Vals ys ws ∧ ks.length = ys.length ∧ 0 < ks.length ∧ ks.Nodup ∧ ys.length ≤ sizeLine ∧
      q < s1.heap.objs.size ∧ t < s1.heap.objs.size ∧ IsZip g (s1.heap.objs.size + 4) (s1.heap.objs.size + 2) (s1.heap.objs.size + 3) .none ∧ IsPair g (s1.heap.objs.size + 2) (.ref s1.heap.objs.size) (.ref (s1.heap.objs.size + 1)) ∧ IsPair g (s1.heap.objs.size + 3) .none .none ∧ (g.IsListIter s1.heap.objs.size q 0 ∧ g.IsList q us.toArray) ∧ (g.IsTupleIter (s1.heap.objs.size + 1) t 0 ∧ g.IsTuple t ws.toArray) ∧
      (∀ c o, s1.heap.get? c = some o → g.get? c = some o) ∧ ∀ p, H1 p = none → Q (.ref p) (upd H1 p (.dK (ks.zip ys)))) X.xe s := by
    refine Call_ (ld_blt I hg2 hm2 PyProof.Rows.boot_zip (PyProof.Rows.callWith_type1 (thn (ha.run pos2 pins s σ H _ I h) fun us s1 ⟨vs, H1, I1, r1, q1⟩ => ?_) hs hpl))
    obtain ⟨q, t, ks, ys, ex, hq, ht, hl, h0, hn, hk⟩ := q1
    subst ex
    cases r1 with
    | cons r rr =>
      cases rr with
      | cons r' rr =>
        cases rr; cases r; cases r'
        obtain ⟨us, rv, m1, _⟩ := I1.list hq
        obtain ⟨ws, rv2, m2, hz⟩ := I1.tuple ht
        have m2' : s1.heap.IsTuple t ws.toArray := m2
        obtain ⟨o2, ho2, _⟩ := id m2'
        refine call_zipM m1.isList m2' fun g v1 v2 v3 v4 v5 kp => ?_
        exact ⟨s1, H1, q, t, ks, ys, g, us, ws, I1, rfl, rfl, rv, rv2, hl, h0, hn, hz, m1.lt, Heap.lt_size ho2, v1, v2, v3, ⟨v4, m1.isList.at fun o e => kp _ o e⟩, ⟨v5, m2'.at fun o e => kp _ o e⟩, kp, hk⟩
  refine Call_ (ld_blt I hg hm PyProof.Rows.boot_dict (PyProof.Rows.callWith_type1 (args_cons (thn inner fun x s2 ⟨s1, H1, q, t, ks, ys, g, us, ws, I1, ex, es, rv, rv2, hl, h0, hn, hz, lq, lt, v1, v2, v3, v4, v5, kp, hk⟩ => args_nil ?_) na) na))
  subst ex es
  have D := PySem.W.ktu_apart s1.heap.objs.size q t lq lt
  have e1 : us.length = ks.length := by rw [← rv.length, List.length_map]
  have e2 : ws.length = ys.length := rv2.length.symm
  have S1 : Src X.prog X.w s1.heap.objs.size q us.toArray _ := src_list (Nat.ne_of_lt lq)
  have S2 : Src X.prog X.w (s1.heap.objs.size + 1) t ws.toArray _ := src_tup (Nat.ne_of_lt (Nat.lt_succ_of_lt lt))
  have P := zip_arg D S1 S2 (by rw [List.size_toArray]; omega) (by rw [List.size_toArray, List.size_toArray]; omega)
  refine call_dict_pairs (knd := mixKind X.prog X.w) (kvs := ks.zip ws) P (I1.ok.hd hc) ⟨v1, v2, ⟨_, _, v3⟩, v4, v5⟩ ⟨?_, fun i key v r => ?_⟩ (by rw [List.size_toArray]; omega) fun h' tk hd' k => ?_
  · rw [List.length_zip, List.size_toArray]; omega
  · obtain ⟨r1, r2⟩ := r
    rw [List.getElem?_toArray] at r1 r2
    have hi : i < ks.length := by rw [← e1]; exact (List.getElem?_eq_some_iff.mp r1).1
    have hk1 : ks[i]? = some ks[i] := List.getElem?_eq_getElem hi
    refine ⟨ks[i], List.getElem?_zip_eq_some.mpr ⟨hk1, r2⟩, ?_⟩
    obtain ⟨u, hu, ru⟩ := rv.get (show (ks.map kV)[i]? = some (kV ks[i]) by rw [List.getElem?_map, hk1]; rfl)
    rw [r1] at hu
    cases hu
    exact kV_is ru
  · have kk : ∀ c o, s1.heap.get? c = some o → h'.get? c = some o := fun c o e => by
      have lc := Heap.lt_size e
      refine k c o ?_ (kp c o e)
      simp only [List.mem_cons, List.not_mem_nil, or_false, not_or]
      exact far4 lc
    have le : s1.heap.objs.size ≤ g.objs.size := le4 (Heap.lt_size v1)
    have hmm : (g.objs.size == sysModules) = false := beq_eq_false_iff_ne.mpr (Nat.ne_of_gt (Nat.lt_of_lt_of_le I1.big le))
    have md := KV.merge (kv_zip rv2 hl) (Paired.nil (F := fun (p : Key × V) (q : Key × Value) => p.1 = q.1 ∧ RelV p.2 q.2))
    rw [merge_nd (ks.zip ys) [] (by rw [List.nil_append, zip_fst hl]; exact hn), List.nil_append] at md
    exact ⟨.ref g.objs.size, upd H1 g.objs.size (.dK (ks.zip ys)), I1.laid (t' := tk) kk le (show ObjOk X.prog X.w _ _ _ (.dK (ks.zip ys)) from ⟨by rw [List.length_zip]; omega, hmm, merged [] (ks.zip ws), md, hd'⟩), rfl, hk _ (I1.hok.fresh le)⟩
end
section
variable {X : Cx} {a b e : Expr} {pos p pos2 p2 : Pos} {Δ : DS} {M : Store} {k : DK} {ka : AK}
theorem ev_dz (hc : X.calm = true) (hg : Gl X "dict") (hm : X.mg "dict" = none) (hg2 : Gl X "zip") (hm2 : X.mg "zip" = none) (h : EvD X a Δ M fun d M1 => EvD X b Δ M1 fun d2 M2 => ∃ (ks : List Str) (ds : List D), d = .lst (ks.map D.str) ∧ d2 = .tup ds ∧ ks.length = ds.length ∧ 0 < ks.length ∧ ks.Nodup ∧ k (.dct (ks.map Sum.inr) ds) M2)
    (hs : starEach [a, b] X.env = (false, eval a X.env) :: starEach [b] X.env := by rfl) (hs2 : starEach [b] X.env = [(false, eval b X.env)] := by rfl) (hpl : (backTo pos2 (starEach [b] X.env)).any (·.1) = false := by rfl)
    (na : starEach [.Call (.Name "zip" p2) [a, b] [] pos2] X.env = (false, eval (.Call (.Name "zip" p2) [a, b] [] pos2) X.env) :: starEach [] X.env := by rfl) : EvD X (.Call (.Name "dict" p) [.Call (.Name "zip" p2) [a, b] [] pos2] [] pos) Δ M k := fun F H σ Q hS ok post => by
  refine sem_lockP (sem_of (pe_dz hc hg hm hg2 hm2 (pa_cons pe_sem (pa_cons pe_sem pa_nil hs2) hs) hs hpl na) (two h hS ok fun d1 d2 M' F' H' u y ⟨ks, ds, e1, e2, hl, h0, hn, hk⟩ st ok' i1 i2 => ?_))
  subst e1 e2
  obtain ⟨q, vs, rfl, hq, il⟩ := is_lst.1 i1
  obtain ⟨t, ws, rfl, ht, jl⟩ := is_tup.1 i2
  have e3 : vs = (ks.map (Sum.inr : Str → Key)).map kV := by
    rw [(IsL.strs ks).1 il, List.map_map]
    rfl
  subst e3
  refine ⟨q, t, ks.map Sum.inr, ws, rfl, SqL.of (ok'.lst hq), ok'.sqT ht, by rw [List.length_map, hl, jl.length], by rw [List.length_map]; exact h0, ?_, fun z hz => .inr ⟨z, _, upd_same, trivial, fun od => ?_⟩⟩
  · exact List.Pairwise.map _ (fun x y n e => n (Sum.inr.inj e)) hn
  have fF := (ok'.fresh hz).1
  have fM := (ok'.fresh hz).2
  have hz0 : H z = none := by
    cases w : H z with
    | none => rfl
    | some u => exact absurd hz (st.there z (by rw [w]; simp))
  have lk : (ks.map (Sum.inr : Str → Key)).length = ds.length := by rw [List.length_map, hl]
  refine post _ M' (upd F' z (.frz od (.dK ((ks.map Sum.inr).zip ws)))) _ _ hk ?_ ?_ (is_dct.2 ⟨z, ws, od, rfl, upd_same, lk, jl.mono (same_new fF)⟩)
  · refine ⟨st.ext.trans (same_new fF), fun a w e => ?_, fun a w e n => ?_, st.dom, fun a n => ?_⟩
    · by_cases c : a = z
      · subst c; exact .inr (.inl hz0)
      · rw [upd_ne c] at e; exact st.new a w e
    · have c := ne_of_none e hz0
      rw [upd_ne c, upd_ne c]; exact st.keep a w e n
    · by_cases c : a = z
      · rw [c, upd_same]; simp
      · rw [upd_ne c, upd_ne c]; exact st.there a n
  · refine ⟨fun a w e => ?_, fun a m e => ?_⟩
    · by_cases c : a = z
      · subst c; rw [upd_same] at e ⊢; exact .inl e
      · rw [upd_ne c] at e; rw [upd_ne c, upd_ne c]; exact ok'.sub a w e
    · have c : a ≠ z := fun c => by rw [c, fM] at e; cases e
      obtain ⟨g1, w, g2, g3⟩ := ok'.mem a m e
      exact ⟨by rw [upd_ne c]; exact g1, w, by rw [upd_ne c, upd_ne c]; exact g2, g3.mono (same_new fF)⟩
/-- list(range(n)) -/
theorem el_listRg (hc : X.calm = true) (hg : Gl X "list") (hm : X.mg "list" = none) (hg2 : Gl X "range") (hm2 : X.mg "range" = none) (h : EvD X e Δ M fun d M1 => ∃ n : Int, d = .int n ∧ 0 ≤ n ∧ n ≤ 16777216 ∧ ka (rngD 0 n.toNat) M1)
    (hs : starEach [e] X.env = [(false, eval e X.env)] := by rfl) (na : starEach [.Call (.Name "range" p2) [e] [] pos2] X.env = (false, eval (.Call (.Name "range" p2) [e] [] pos2) X.env) :: starEach [] X.env := by rfl) : EvL X (.Call (.Name "list" p) [.Call (.Name "range" p2) [e] [] pos2] [] pos) Δ M ka := fun F H σ Q hS ok post =>
  sem_of (pe_listRg hc hg hm (prg_1 hg2 hm2 pe_sem hs) na) (h F H σ _ hS ok fun d M1 F1 H1 v ⟨n, ed, h0, h1, hk⟩ st ok1 i => by
    subst ed
    refine ⟨n, is_int.1 i, RgOk.of_le (by omega) h1 (by omega) h0, fun q hq => ?_⟩
    refine post.new st ok1 hk hq ?_
    unfold rngD rgV
    rw [Int.sub_zero]
    have q1 : (List.range n.toNat).map (fun i => D.int (0 + (i : Nat))) = ((List.range n.toNat).map fun i => (0 + (i : Nat) : Int)).map D.int := by rw [List.map_map]; rfl
    have q2 : (List.range n.toNat).map (fun i => V.int (0 + (i : Nat))) = ((List.range n.toNat).map fun i => (0 + (i : Nat) : Int)).map V.int := by rw [List.map_map]; rfl
    rw [q1, q2]
    exact (IsL.ints _).2 rfl)
end
end DL
end
section
set_option Elab.async false
set_option linter.all false
set_option maxRecDepth 100000
/-! DP: dict(zip(list, tuple)), list(range(n)), a part of a law with its box and one thing more -/
namespace DL
open PySem L2
section
variable {γ : Nat → Addr} {X : Cx} {a c e e2 e3 : Expr} {es : List Expr} {pos p pos2 p2 : Pos} {x y : Str} {s t v : SE} {m n : Nat} {F : List D → Pg D}
def nodS : List Str → Bool
  | [] => true
  | x :: xs => !(xs.any fun y => decide (y = x)) && nodS xs
theorem nodS_is : ∀ {xs : List Str}, nodS xs = true → xs.Nodup
  | [], _ => List.nodup_nil
  | x :: xs, h => by
    unfold nodS at h
    rw [Bool.and_eq_true] at h
    refine List.nodup_cons.mpr ⟨fun hm => ?_, nodS_is h.2⟩
    have : (xs.any fun y => decide (y = x)) = true := List.any_eq_true.mpr ⟨x, hm, decide_eq_true rfl⟩
    rw [this] at h
    exact absurd h.1 (by decide)
def dzO : D → D → Option D
  | .lst xs, .tup ds => (unS xs).bind fun ks => if (decide (ks.length = ds.length) && decide (0 < ks.length) && nodS ks) = true then some (.dct (ks.map Sum.inr) ds) else none
  | _, _ => none
theorem i_dz (hc : X.calm = true) (hg : Gl X "dict") (hm : X.mg "dict" = none) (hg2 : Gl X "zip") (hm2 : X.mg "zip" = none) (h : IE γ X a s) (h2 : IE γ X c t)
    (hs : starEach [a, c] X.env = (false, eval a X.env) :: starEach [c] X.env := by rfl) (hs2 : starEach [c] X.env = [(false, eval c X.env)] := by rfl) (hpl : (backTo pos2 (starEach [c] X.env)).any (·.1) = false := by rfl)
    (na : starEach [.Call (.Name "zip" p2) [a, c] [] pos2] X.env = (false, eval (.Call (.Name "zip" p2) [a, c] [] pos2) X.env) :: starEach [] X.env := by rfl) : IE γ X (.Call (.Name "dict" p) [.Call (.Name "zip" p2) [a, c] [] pos2] [] pos) (c2 dzO s t) := .mk fun b u M0 Δ Δr M n k S w =>
  ev_dz hc hg hm hg2 hm2 (h.go b u M0 Δ Δr M n _ S ((wpB_bind.1 w).mono fun d n1 w1 M1 A1 => h2.go b u M0 Δ Δr M1 n1 _ (S.aft A1) ((wpB_bind.1 w1).mono fun d2 n2 w2 M2 A2 => by
    obtain ⟨r, h1, h3⟩ := wpB_ofO w2
    have hk := h3 M2 (A1.trans A2)
    unfold dzO at h1
    split at h1
    · rename_i xs ds
      obtain ⟨ks, h4, h5⟩ := Option.bind_eq_some_iff.mp h1
      split at h5
      · rename_i hb
        cases h5
        rw [Bool.and_eq_true, Bool.and_eq_true] at hb
        rw [rn_dct] at hk
        refine ⟨ks, rnL (rho γ u) ds, ?_, rn_tup _, by rw [rnL_len]; exact of_decide_eq_true hb.1.1, of_decide_eq_true hb.1.2, nodS_is hb.2, hk⟩
        rw [Option.some.inj (strL h4), rn_lst, rn_strs]
      · cases h5
    · cases h1))) hs hs2 hpl na
def aRgL (s : SE) : SA := fun Δ => (s Δ).bind fun d => match d with
  | .int n => if 0 ≤ n ∧ n ≤ 16777216 then .ret (rngD 0 n.toNat) else .fail
  | _ => .fail
theorem l_listRg (hc : X.calm = true) (hg : Gl X "list") (hm : X.mg "list" = none) (hg2 : Gl X "range") (hm2 : X.mg "range" = none) (h : IE γ X e s)
    (hs : starEach [e] X.env = [(false, eval e X.env)] := by rfl) (na : starEach [.Call (.Name "range" p2) [e] [] pos2] X.env = (false, eval (.Call (.Name "range" p2) [e] [] pos2) X.env) :: starEach [] X.env := by rfl) : IL γ X (.Call (.Name "list" p) [.Call (.Name "range" p2) [e] [] pos2] [] pos) (aRgL s) := .mk fun b u M0 Δ Δr M n k S w =>
  el_listRg hc hg hm hg2 hm2 (h.go b u M0 Δ Δr M n _ S ((wpB_bind.1 w).mono fun d n1 w1 M1 A1 => by
    split at w1
    · rename_i i
      split at w1
      · rename_i hi
        have hk := w1 M1 A1
        rw [rn_rng] at hk
        exact ⟨i, rn_int _, hi.1, hi.2, hk⟩
      · exact w1.elim
    · exact w1.elim)) hs na
/-- R(B(cells, k), x) -/
def cBox2 (ck : D → Bool) (s t v : SE) : SE := fun Δ => (s Δ).bind fun d => (t Δ).bind fun j => match d, j with
  | .lst xs, .int j => match unI xs with
    | some ns => if 0 ≤ j ∧ j < ns.length ∧ j < 100 then (v Δ).bind fun c => if ck c = true then .ret (.bl true) else .fail else .fail
    | none => .fail
  | _, _ => .fail
theorem i_box2 {ck : D → Bool} (CB : Cal X.prog X.w X.K X.mg X.base y m spBox) (CR : Cal X.prog X.w X.K X.mg X.base x n (spW γ [] F)) (hB : Room m X.A) (hR : Room n X.A) (gB : Gl X y) (gR : Gl X x) (hP : ∀ d, ck d = true → ∀ ρ, rn ρ d = d) (hW : ∀ d, ck d = true → wpB true 1000000 (F [.cell 0, d]) fun d _ => d = .bl true) (h : IE γ X a s) (h2 : IE γ X c t) (h3 : IE γ X e3 v)
    (dB : (y == ("__debug__" : Str)) = false := by decide) (dR : (x == ("__debug__" : Str)) = false := by decide) (e1 : starEach [a, c] X.env = (false, eval a X.env) :: starEach [c] X.env := by rfl) (e2 : starEach [c] X.env = [(false, eval c X.env)] := by rfl) (e5 : (backTo pos2 (starEach [c] X.env)).any (·.1) = false := by rfl)
    (f1 : starEach [.Call (.Name y p2) [a, c] [] pos2, e3] X.env = (false, eval (.Call (.Name y p2) [a, c] [] pos2) X.env) :: starEach [e3] X.env := by rfl) (f2 : starEach [e3] X.env = [(false, eval e3 X.env)] := by rfl) (f3 : (backTo pos (starEach [e3] X.env)).any (·.1) = false := by rfl) :
    IE γ X (.Call (.Name x p) [.Call (.Name y p2) [a, c] [] pos2, e3] [] pos) (cBox2 ck s t v) := .mk fun b u M0 Δ Δr M n k S w => by
  refine ev_call CR hR gR (two2 (ev_call CB hB gB (two2 (h.go b u M0 Δ Δr M n _ S ((wpB_bind.1 w).mono fun d n1 w1 M1 A1 => h2.go b u M0 Δ Δr M1 n1 _ (S.aft A1) ((wpB_bind.1 w1).mono fun j n2 w2 M2 A2 => ?_))) e1 e2) dB e1 e5) f1 f2) dR f1 f3
  split at w2
  · split at w2
    · rename_i _ _ xs j _ ns hn
      split at w2
      · rename_i hj
        rw [unI_eq hn, rn_lst, rn_ints, rn_int]
        refine ⟨ns, j.toNat, by rw [Int.toNat_of_nonneg hj.1], by omega, by omega, fun q M3 hk0 hv hU => ?_⟩
        have A12 := A1.trans A2
        have A13 : Aft b u M M3 n2 := ⟨fun r mm hq e => hk0 r mm (A12.keep r mm hq e), fun hb => by
          obtain ⟨a1, a2, a3, a4, a5⟩ := A12.urn hb
          exact ⟨a1, a2, a3, hk0 _ _ a4, a5⟩⟩
        have hqu : b = true → q ≠ u.1 := fun hb z => by
          obtain ⟨a1, a2, a3, a4, _⟩ := A12.urn hb
          rw [← z, hv] at a4
          cases a4
        refine h3.go b u M0 Δ Δr M3 n2 _ (S.aft A13) ((wpB_bind.1 w2).mono fun cd n3 w3 M4 A4 => ?_)
        split at w3
        · rename_i hck
          have hq4 : ∃ a1 a2 a3, M3 q = some (.lst [.int a1, .int a2, .int a3]) := by
            obtain ⟨a1, a2, a3, a4, _⟩ := hU
            exact ⟨a1, a2, a3, a4⟩
          have hU4 : Urn M4 q 1000000 := by
            obtain ⟨a1, a2, a3, a4, a5⟩ := hU
            exact ⟨a1, a2, a3, A4.keep _ _ (fun hb => hqu hb) a4, a5⟩
          refine ⟨true, (q, q), [.cell 0, cd], 1000000, by unfold VwL; rw [rnL_cons, rnL_cons, rnL_nil, rn_cell, hP cd hck, hP cd hck]; rfl, fun _ => hU4, (hW cd hck).mono fun d n4 hd M5 A5 => ?_⟩
          subst hd
          have A14 := A13.trans A4
          have kp : ∀ r mm, r ≠ q → M4 r = some mm → M5 r = some mm := fun r mm n e => A5.keep r mm (fun _ => n) e
          have old : ∀ r mm, M2 r = some mm → r ≠ q := fun r mm e z => by rw [z, hv] at e; cases e
          have w4 := w3 M5 ⟨fun r mm hq e => kp r mm (fun z => ?_) (A14.keep r mm hq e), fun hb => by
            obtain ⟨a1, a2, a3, a4, a5⟩ := A4.urn hb
            exact ⟨a1, a2, a3, kp _ _ (fun z => hqu hb z.symm) a4, a5⟩⟩
          · rw [rn_bl] at w4
            rw [rn_bl]
            exact w4
          · exact old r mm (A12.keep r mm hq e) z
        · exact w3.elim
      · exact w2.elim
    · exact w2.elim
  · exact w2.elim
end
end DL
end
section
set_option Elab.async false
set_option linter.all false
set_option maxRecDepth 100000
set_option maxHeartbeats 4000000
namespace DSet
open PySem PySem.Spec PyProof.Rows L2
section
variable {P : Program} {w : World} {A : Around} {E : Value → Shared → Prop} {s : Shared} {a : Addr} {L : List (Addr × List Key)} {es : Array (Int × Value)} {ep : Nat} {t : SetTable}
theorem ST2.keep {h h2 : Heap} (R : ST2 P w h a L es ep t) (ha : ∀ o, h.get? a = some o → h2.get? a = some o) (ht : ∀ p ∈ L, TK2 P w h2 p.2 p.1) : ST2 P w h2 a L es ep t := by
  obtain ⟨ob, hob, r⟩ := R.at_
  exact { R with at_ := ⟨ob, ha ob hob, r⟩, tu := ht }
end
end DSet
end
section
set_option Elab.async false
set_option linter.all false
set_option maxRecDepth 100000
set_option maxHeartbeats 4000000
namespace DSet
open PySem PySem.Spec PyProof.Rows L2
section
variable {P : Program} {w : World} {A : Around} {E : Value → Shared → Prop} {s : Shared}
/-! ### set(list of tuples) -/
theorem ST2.fresh {h : Heap} {a : Addr} (ho : h.get? a = some (freshSet w)) : ST2 P w h a [] #[] 0 (.fresh 0 0 (!w.params.followText "set-order")) where
  at_ := ⟨_, ho, ⟨rfl, rfl, rfl⟩, rfl⟩
  row := rfl
  tb := ⟨List.Pairwise.nil, rfl, rfl, .inl rfl, fun x hx => (by cases hx), fun i h j hi => (by simp at hi)⟩
  dis := List.nodup_nil
  tu := fun p hp => nomatch hp
  ld := by
    show _ ∨ (!w.params.followText "set-order") = true
    cases w.params.followText "set-order"
    · exact .inr rfl
    · exact .inl rfl
  rm := show 0 * 5 < 7 * 3 by decide
  lt := show 0 < 64 by decide
/-! ### ranks -/
theorem filter_lt {α : Type} (p q : α → Bool) : ∀ (l : List α), (∀ c ∈ l, p c = true → q c = true) → (∃ c ∈ l, p c = false ∧ q c = true) → (l.filter p).length < (l.filter q).length
  | [], _, h => by obtain ⟨c, h1, _⟩ := h; cases h1
  | c :: l, h1, h2 => by
    have le : (l.filter p).length ≤ (l.filter q).length := by
      have : ∀ l : List α, (∀ c ∈ l, p c = true → q c = true) → (l.filter p).length ≤ (l.filter q).length := by
        intro l
        induction l with
        | nil => exact fun _ => Nat.le_refl _
        | cons c l ih =>
          intro h
          have := ih fun d hd => h d (List.mem_cons_of_mem _ hd)
          have hc := h c List.mem_cons_self
          rw [List.filter_cons, List.filter_cons]
          cases hp : p c <;> cases hq : q c <;> simp_all <;> omega
      exact this l fun d hd => h1 d (List.mem_cons_of_mem _ hd)
    rw [List.filter_cons, List.filter_cons]
    have hc := h1 c List.mem_cons_self
    rcases h2 with ⟨d, hd, e1, e2⟩
    rcases List.mem_cons.mp hd with z | z
    · subst z
      rw [e1, e2]
      simp
      omega
    · have := filter_lt p q l (fun d hd => h1 d (List.mem_cons_of_mem _ hd)) ⟨d, z, e1, e2⟩
      cases hp : p c <;> cases hq : q c <;> simp_all <;> omega
abbrev IK := List (Int ⊕ List Nat)
abbrev lxl (a b : IK) : Bool := lexLt itemOrd a b
def rkOf (l : List IK) (a : IK) : Int := ((l.filter fun c => lxl c a).length : Nat)
theorem rk_ok {l : List IK} {a b : IK} (ha : a ∈ l) : decide (rkOf l a < rkOf l b) = lxl a b := by
  unfold rkOf
  cases h : lxl a b with
  | true =>
    refine decide_eq_true ?_
    have := filter_lt (fun c => lxl c a) (fun c => lxl c b) l (fun c _ hc => lex_trans (O := itemOrd) c a b hc h) ⟨a, ha, lex_irrefl (O := itemOrd) a, h⟩
    omega
  | false =>
    refine decide_eq_false fun z => ?_
    have : ∀ c ∈ l, lxl c b = true → lxl c a = true := fun c _ hc => by
      rcases lex_negTrans (O := itemOrd) c a b hc with y | y
      · exact y
      · exact absurd (y.symm.trans h) (by decide)
    have le : (l.filter fun c => lxl c b).length ≤ (l.filter fun c => lxl c a).length := by
      clear z ha
      induction l with
      | nil => exact Nat.le_refl _
      | cons c l ih =>
        have i := ih fun d hd => this d (List.mem_cons_of_mem _ hd)
        have hc := this c List.mem_cons_self
        rw [List.filter_cons, List.filter_cons]
        cases hp : lxl c b <;> cases hq : lxl c a <;> simp_all <;> omega
    omega
/-! ### sort of tuples of texts -/
def TxT (h : Heap) (v : Value) (xs : List Str) : Prop := ∃ b o its m, v = .ref b ∧ h.get? b = some o ∧ o.cls = .type "tuple" ∧ o.data = .seq its m ∧ StrsAre its.toList xs ∧ xs ≠ []
abbrev ikOf (xs : List Str) : IK := xs.map fun x => Sum.inr x.cps.toList
theorem items_ik : ∀ {vs : List Value} {xs : List Str} (i : Nat), StrsAre vs xs → tupItems (fun _ => true) i vs = some (ikOf xs)
  | _, _, _, .nil => rfl
  | _, _, i, .cons x t r => by
    simp only [tupItems, if_true, items_ik (i + 1) r]
    rfl
theorem TxT.key {h : Heap} {v : Value} {xs : List Str} (x : TxT h v xs) : tupKey h (fun _ => true) v = some (ikOf xs) := by
  obtain ⟨b, o, its, m, rfl, ho, hc, hd, hi, _⟩ := x
  simp only [tupKey, ho, hd, items_ik 0 hi]
theorem TxT.keep {h h2 : Heap} {v : Value} {xs : List Str} (x : TxT h v xs) (k : ∀ b o, h.get? b = some o → o.cls = .type "tuple" → h2.get? b = some o) : TxT h2 v xs := by
  obtain ⟨b, o, its, m, e, ho, hc, r⟩ := x
  exact ⟨b, o, its, m, e, k b o ho hc, hc, r⟩
theorem txs_firsts {h : Heap} : ∀ (vs : List Value), (∀ v ∈ vs, ∃ xs, TxT h v xs) → ∃ fs, TupsOf h (fun _ => true) vs fs ∧ fs.length = vs.length
  | [], _ => ⟨[], .nil, rfl⟩
  | v :: vs, x => by
    obtain ⟨fs, h1, h2⟩ := txs_firsts vs fun u hu => x u (List.mem_cons_of_mem _ hu)
    obtain ⟨xs, b, o, its, m, rfl, ho, hc, hd, hi, hn⟩ := x v List.mem_cons_self
    obtain ⟨its⟩ := its
    cases hi with
    | nil => exact absurd rfl hn
    | cons y t r => exact ⟨_ :: fs, .cons ⟨b, o, _, m, rfl, ho, hc, hd, rfl, fun z => (by cases z), fun _ => ⟨y, t, rfl⟩⟩ h1, by rw [List.length_cons, List.length_cons, h2]⟩
abbrev kx (h : Heap) (v : Value) : IK := (tupKey h (fun _ => true) v).getD []
theorem sort2 {a : Addr} {vs : List Value} {n : Nat} {F : PySem.Fin → Shared → Prop} (ho : s.heap.get? a = some (seqObj "list" vs.toArray n)) (h64 : vs.length < 64) (x : ∀ v ∈ vs, ∃ xs, TxT s.heap v xs)
    (h : ∀ out : Array Value, out.toList.Perm vs → out.toList.Pairwise (fun u v => lxl (kx s.heap v) (kx s.heap u) = false) → F (.done (.ret .none)) { s with heap := sortedHeap s.heap a vs out }) :
    wpAny (model P w) A (Builtin.«list.sort» ⟨[.ref a], []⟩) F E s := by
  have keep : ∀ b o, s.heap.get? b = some o → o.cls = .type "tuple" → (TS.midHeap s.heap a vs).get? b = some o := fun b o e hc => by
    refine TS.midHeap_old (fun z => ?_) e
    rw [z, ho] at e
    rw [← Option.some.inj e] at hc
    exact absurd (Value.type.inj hc) (by decide)
  have kk : ∀ v ∈ vs, tupKey (TS.midHeap s.heap a vs) (fun _ => true) v = some (kx s.heap v) := fun v hv => by
    obtain ⟨xs, hx⟩ := x v hv
    rw [(hx.keep keep).key]
    show _ = some ((tupKey s.heap (fun _ => true) v).getD [])
    rw [hx.key]; rfl
  refine SK.plain_sort (r := fun v => rkOf (vs.map (kx s.heap)) (kx s.heap v)) ho h64 (fun h2 Q hQ => ?_) fun ps out h1 h2 h3 => ?_
  · obtain ⟨fs, ht, hl⟩ := txs_firsts (h := TS.midHeap s.heap a vs) vs fun v hv => (x v hv).imp fun xs hx => hx.keep keep
    refine tup_kind (shape := fun _ => true) (s := { s with heap := TS.midHeap s.heap a vs }) (by omega) ht (hQ _ ?_)
    intro p q hp hq Q2 E2 hq2
    rw [pairsOf_toList] at hp hq
    have mp := (List.of_mem_zip hp).1
    have mq := (List.of_mem_zip hq).1
    refine tup_ltAt (shape := fun _ => true) true A E2 p.1 q.1 _ _ (kk _ mp) (kk _ mq) ?_
    have e := rk_ok (l := vs.map (kx s.heap)) (a := kx s.heap p.1) (b := kx s.heap q.1) (List.mem_map.mpr ⟨_, mp, rfl⟩)
    rw [e] at hq2
    exact hq2
  · obtain ⟨pm, po⟩ := TS.out_rank (r := fun v => rkOf (vs.map (kx s.heap)) (kx s.heap v)) h1 h2 h3
    refine h out pm (po.imp_of_mem fun {u v} hu hv hle => ?_)
    have mv := pm.mem_iff.mp hv
    have e := rk_ok (l := vs.map (kx s.heap)) (a := kx s.heap v) (b := kx s.heap u) (List.mem_map.mpr ⟨_, mv, rfl⟩)
    rw [← e]
    exact decide_eq_false (by omega)
end
end DSet
end
section
set_option Elab.async false
set_option linter.all false
set_option maxRecDepth 100000
set_option maxHeartbeats 4000000
namespace DSet
open PySem PySem.Spec PyProof.Rows L2
section
variable {P : Program} {w : World} {A : Around} {E : Value → Shared → Prop} {s : Shared}
theorem items_strs : ∀ {xs : List Str} {vs : List Value}, ItemsAre (mixKind P w) (xs.map Sum.inr) vs → StrsAre vs xs
  | [], _, h => by cases h; exact .nil
  | x :: xs, _, h => by
    cases h with
    | cons h1 h2 =>
      rcases keyIs_shape (show keyIs (Sum.inr x) _ = true from h1) with ⟨i, t, e, _⟩ | ⟨y, t, e, e2⟩
      · cases e
      · rw [e2, ← Sum.inr.inj e]
        exact .cons x t (items_strs h2)
theorem strs_items : ∀ {xs : List Str} {vs : List Value}, Vals (xs.map V.str) vs → ItemsAre (mixKind P w) (xs.map Sum.inr) vs
  | [], _, h => by cases h; exact .nil
  | x :: xs, _, h => by
    cases h with
    | cons h1 h2 =>
      obtain ⟨t, rfl⟩ := h1
      exact .cons (keyIs_str x t) (strs_items h2)
theorem t2_txt {h : Heap} {b : Addr} {xs : List Str} (tk : TK2 P w h (xs.map Sum.inr) b) (hn : xs ≠ []) : TxT h (.ref b) xs := by
  obtain ⟨o, its, m, h1, h2, h3, h4⟩ := tk
  exact ⟨b, o, its, m, rfl, h1, h2, h3, items_strs h4, hn⟩
abbrev ordT (q r : Addr × List Str) : Prop := lxl (ikOf r.2) (ikOf q.2) = false
/-- what sort leaves of rows that are told apart by their addresses -/
theorem rows_back {h : Heap} {L : List (Addr × List Str)} (tx : ∀ q ∈ L, TxT h (.ref q.1) q.2) {out : List Value} (pm : out.Perm (L.map fun q => Value.ref q.1)) (po : out.Pairwise (fun u v => lxl (kx h v) (kx h u) = false)) :
    ∃ Ls : List (Addr × List Str), out = Ls.map (fun q => Value.ref q.1) ∧ Ls.Perm L ∧ Ls.Pairwise ordT := by
  obtain ⟨zs, p, q⟩ := perm_lift (fun q : Addr × List Str => Value.ref q.1) pm L rfl
  refine ⟨zs, q.symm, p, ?_⟩
  rw [← q, List.pairwise_map] at po
  refine po.imp_of_mem fun {x y} hx hy hh => ?_
  have ex := (tx x (p.mem_iff.mp hx)).key
  have ey := (tx y (p.mem_iff.mp hy)).key
  have e1 : kx h (Value.ref x.1) = ikOf x.2 := by show (tupKey _ _ _).getD [] = _; rw [ex]; rfl
  have e2 : kx h (Value.ref y.1) = ikOf y.2 := by show (tupKey _ _ _).getD [] = _; rw [ey]; rfl
  rw [e1, e2] at hh
  exact hh
end
theorem vals_refs : ∀ (ks : List (Addr × List Str)), Vals (ks.map fun p => V.ref p.1) (ks.map fun p => Value.ref p.1)
  | [] => .nil
  | p :: ks => .cons rfl (vals_refs ks)
theorem refs_vals : ∀ {ks : List (Addr × List Str)} {us : List Value}, Vals (ks.map fun p => V.ref p.1) us → us = ks.map fun p => Value.ref p.1
  | [], _, h => by cases h; rfl
  | p :: ks, _, h => by
    cases h with
    | cons h1 h2 => rw [refs_vals h2]; cases h1; rfl
end DSet
namespace DL
open PySem L2
/-- tuples of texts -/
def tx2 (x : List Str) : D := .tup (x.map D.str)
abbrev lxs (x y : List Str) : Bool := DSet.lxl (DSet.ikOf x) (DSet.ikOf y)
theorem txs_rows {K : PySem.W.Frag} {F M : _} {H : Hp} (ok : Ok K F M H) : ∀ {xs : List (List Str)} {vs : List V}, IsL K F (xs.map tx2) vs → ∃ ks : List (Addr × List Str), vs = ks.map (fun p => V.ref p.1) ∧ ks.map (·.2) = xs ∧ ∀ p ∈ ks, SqT K H p.1 (p.2.map V.str) ∧ Is K F (tx2 p.2) (.ref p.1)
  | [], _, h => ⟨[], isL_nil.1 h, rfl, fun p hp => nomatch hp⟩
  | x :: xs, _, h => by
    obtain ⟨v, r, rfl, h1, h2⟩ := isL_cons.1 h
    obtain ⟨ks, e1, e2, e3⟩ := txs_rows ok h2
    have h1' := h1
    obtain ⟨a, ws, rfl, hq, hl⟩ := is_tup.1 h1
    have ew := (IsL.strs x).1 hl
    subst ew
    refine ⟨(a, x) :: ks, by rw [e1]; rfl, by rw [List.map_cons, e2], fun p hp => ?_⟩
    rcases List.mem_cons.mp hp with z | z
    · rw [z]; exact ⟨ok.sqT hq, h1'⟩
    · exact e3 p z
theorem rows_txs {K : PySem.W.Frag} {F : Hp} : ∀ {ks : List (Addr × List Str)}, (∀ p ∈ ks, Is K F (tx2 p.2) (.ref p.1)) → IsL K F ((ks.map (·.2)).map tx2) (ks.map fun p => V.ref p.1)
  | [], _ => IsL.nil
  | p :: ks, h => IsL.cons (h p List.mem_cons_self) (rows_txs fun q hq => h q (List.mem_cons_of_mem _ hq))
section
variable {X : Cx} {a : Expr} {Δ : DS} {M : Store} {ka : AK} {p p2 q pos : Pos}
end
end DL
end
section
set_option Elab.async false
set_option linter.all false
set_option maxRecDepth 100000
/-! DP: sorted, sorted(set) of tuples of texts -/
namespace DSet
open PySem PySem.Spec PyProof.Rows L2
section
variable {X : Cx}
/-- sorted(xs), a list of tuples of texts -/
def rSort2 (K : PySem.W.Frag) : List V → Hp → VK → Prop := fun vs H Q => ∃ (a : Addr) (ks : List (Addr × List Str)), vs = [V.ref a] ∧ SqL K H a (ks.map fun p => V.ref p.1) ∧ (∀ p ∈ ks, SqT K H p.1 (p.2.map V.str) ∧ p.2 ≠ []) ∧ ks.length < 64 ∧
  ∀ (L : List (Addr × List Str)) (p : Addr), L.Perm ks → L.Pairwise ordT → H p = none → Q (.ref p) (upd H p (.lst (L.map fun q => V.ref q.1)))
theorem cr_sorted2 : CallR X (.builtin "sorted") (rSort2 X.K) := by
  intro pins s σ H vs us Q I r h
  obtain ⟨a, ks, rfl, hs, ht, h64, q⟩ := h
  obtain ⟨its, rv, hl, _⟩ := I.list hs
  rw [Vals.ref1 r]
  have eits := refs_vals rv
  have li : its.length = ks.length := by rw [eits, List.length_map]
  refine Calls.call_function_entry kind_sorted plain_sorted entry_sorted (args_sorted1 _) ?_
  unfold Builtin.«sorted»
  refine wpAny_bind (m := checkCount "sorted" 1 1 _) (wpAny_pure (show _ from ?_))
  refine wpAny_bind (collect_list hl.isList (show _ from ?_) (show _ ≤ _ from by rw [sizeLine_eq]; omega))
  refine wpAny_bind (wpAny_newList (show _ from ?_) (show _ ≤ _ from by rw [sizeLine_eq]; omega))
  have hsz : ((s.heap.push (seqObj "list" #[] 0)).update s.heap.objs.size (Obj.mapSeq (· ++ its.toArray))).objs.size = s.heap.objs.size + 1 := by
    rw [Heap.size_update, size_push']
  have hoL : (((s.heap.push (seqObj "list" #[] 0)).update s.heap.objs.size (Obj.mapSeq (· ++ its.toArray))).push (seqObj "list" its.toArray 0)).get? (s.heap.objs.size + 1) = some (seqObj "list" its.toArray 0) := by
    rw [← hsz]; exact Heap.get?_push_size _ rfl
  have kp : ∀ b o, s.heap.get? b = some o → (((s.heap.push (seqObj "list" #[] 0)).update s.heap.objs.size (Obj.mapSeq (· ++ its.toArray))).push (seqObj "list" its.toArray 0)).get? b = some o := fun b o e => by
    have hlt : b < s.heap.objs.size := Heap.lt_size e
    rw [Heap.get?_push_ne _ _ _ (by rw [hsz]; exact Nat.ne_of_lt (Nat.lt_succ_of_lt hlt)), Heap.get?_update_ne _ _ _ _ (Nat.ne_of_lt hlt), Heap.get?_push_ne _ _ _ (Nat.ne_of_lt hlt)]
    exact e
  show wpAny _ _ _ _ _ { s with heap := ((s.heap.push (seqObj "list" #[] 0)).update s.heap.objs.size (Obj.mapSeq (· ++ its.toArray))).push (seqObj "list" its.toArray 0) }
  rw [hsz]
  have tx : ∀ q ∈ ks, TxT (((s.heap.push (seqObj "list" #[] 0)).update s.heap.objs.size (Obj.mapSeq (· ++ its.toArray))).push (seqObj "list" its.toArray 0)) (.ref q.1) q.2 := fun q hq => by
    obtain ⟨it2, r2, ⟨o, ho, hcl, m, hd⟩, _⟩ := I.tuple (ht q hq).1
    exact t2_txt (P := X.prog) (w := X.w) ⟨o, it2.toArray, m, kp _ _ ho, hcl, hd, by simpa using strs_items (P := X.prog) (w := X.w) r2⟩ (ht q hq).2
  refine wpAny_bind (wpAny_holding (wpAny_call_entry slot_list_sort ⟨_, hoL, rfl⟩ entry_list_sort (sort2 (s := { s with heap := ((s.heap.push (seqObj "list" #[] 0)).update s.heap.objs.size (Obj.mapSeq (· ++ its.toArray))).push (seqObj "list" its.toArray 0) }) hoL (by omega) (fun v hv => ?_) fun out a1 a2 => ⟨_, rfl, ?_⟩) (args_list_sort _)))
  · rw [eits] at hv
    obtain ⟨q, hq, e⟩ := List.mem_map.mp hv
    rw [← e]
    exact ⟨q.2, tx q hq⟩
  · rw [eits] at a1
    obtain ⟨Ls, e1, e2, e3⟩ := rows_back tx a1 a2
    obtain ⟨ep, he⟩ := PyProof.Rows.sortedAll_at s.heap its out
    have hlen : (Ls.map fun q => V.ref q.1).length ≤ sizeLine := by rw [List.length_map, e2.length_eq]; exact small64 h64
    exact wpAny_pure ⟨_, rfl, .ref _, upd H (s.heap.objs.size + 1) (.lst (Ls.map fun q => V.ref q.1)), I.laid (t' := s.toks) (fun _ _ => PyProof.Rows.sortedAll_old) (Nat.le_succ _) ⟨hlen, out.toList, ep, by rw [e1]; exact vals_refs Ls, he⟩, rfl, q Ls _ e2 e3 (I.hok.fresh (Nat.le_succ _))⟩
end
end DSet
namespace DL
open PySem L2
/-! ### the order of tuples of texts -/
def lxt : List Str → List Str → Bool
  | [], [] => false
  | [], _ :: _ => true
  | _ :: _, [] => false
  | x :: r, y :: t => lts x y || (!lts y x && lxt r t)
theorem ltc_dec : ∀ a b : List Nat, Spec.ltCps a b = decide (a < b)
  | [], [] => rfl
  | [], _ :: _ => rfl
  | _ :: _, [] => rfl
  | a :: r, b :: t => by
    unfold Spec.ltCps
    rw [ltc_dec r t, Bool.eq_iff_iff]
    simp only [Bool.or_eq_true, Bool.and_eq_true, decide_eq_true_eq, beq_iff_eq, List.cons_lt_cons_iff]
theorem lxs_eq : ∀ x y : List Str, lxs x y = lxt x y
  | [], [] => rfl
  | [], _ :: _ => rfl
  | _ :: _, [] => rfl
  | x :: r, y :: t => by
    show (decide (x.cps.toList < y.cps.toList) || (!decide (y.cps.toList < x.cps.toList) && lxs r t)) = _
    unfold lxt lts
    rw [ltc_dec, ltc_dec, lxs_eq r t]
theorem lxt_irr (x : List Str) : lxt x x = false := by rw [← lxs_eq]; exact PyProof.Rows.lex_irrefl (O := PyProof.Rows.itemOrd) _
theorem lxt_trans {x y z : List Str} (h : lxt x y = true) (g : lxt y z = true) : lxt x z = true := by
  rw [← lxs_eq] at h g ⊢; exact PyProof.Rows.lex_trans (O := PyProof.Rows.itemOrd) _ _ _ h g
theorem lxt_tri : ∀ {x y : List Str}, lxt x y = false → lxt y x = false → x = y
  | [], [], _, _ => rfl
  | [], _ :: _, h, _ => by cases h
  | _ :: _, [], _, h => by cases h
  | x :: r, y :: t, h, g => by
    unfold lxt at h g
    cases h1 : lts x y <;> cases h2 : lts y x <;> rw [h1, h2] at h g <;> simp at h g
    rw [lts_tri h1 h2, lxt_tri h g]
theorem lxt_asym {x y : List Str} (h : lxt x y = true) : lxt y x = false := by
  cases c : lxt y x with
  | false => rfl
  | true => have := lxt_trans h c; rw [lxt_irr] at this; cases this
theorem lxt_neg {x y z : List Str} (h : lxt y x = false) (g : lxt z y = false) : lxt z x = false := by
  cases c : lxt z x with
  | false => rfl
  | true =>
    cases c2 : lxt y z with
    | true => rw [lxt_trans c2 c] at h; cases h
    | false =>
      have e := lxt_tri g c2
      subst e
      rw [c] at h
      cases h
def insX (x : List Str) : List (List Str) → List (List Str)
  | [] => [x]
  | y :: r => if lxt y x = true then y :: insX x r else x :: y :: r
def sortX : List (List Str) → List (List Str)
  | [] => []
  | x :: r => insX x (sortX r)
/-- ascending, each once -/
def dedX : List (List Str) → List (List Str)
  | [] => []
  | x :: r => if x ∈ r then dedX r else x :: dedX r
def ssX (xs : List (List Str)) : List (List Str) := sortX (dedX xs)
theorem insX_perm (x : List Str) : ∀ l : List (List Str), (insX x l).Perm (x :: l)
  | [] => .refl _
  | y :: r => by
    unfold insX
    split
    · exact ((insX_perm x r).cons y).trans (.swap x y r)
    · exact .refl _
theorem sortX_perm : ∀ l : List (List Str), (sortX l).Perm l
  | [] => .refl _
  | x :: r => (insX_perm x _).trans ((sortX_perm r).cons x)
theorem insX_pw (x : List Str) : ∀ {l : List (List Str)}, l.Pairwise (fun a b => lxt b a = false) → (insX x l).Pairwise fun a b => lxt b a = false
  | [], _ => List.pairwise_singleton _ _
  | y :: r, h => by
    unfold insX
    obtain ⟨h1, h2⟩ := List.pairwise_cons.mp h
    split
    · rename_i hxy
      refine List.pairwise_cons.mpr ⟨fun z hz => ?_, insX_pw x h2⟩
      rcases List.mem_cons.mp ((insX_perm x r).mem_iff.mp hz) with e | hz
      · rw [e]; exact lxt_asym hxy
      · exact h1 z hz
    · rename_i hxy
      have hxy' : lxt y x = false := by simpa using hxy
      refine List.pairwise_cons.mpr ⟨fun z hz => ?_, h⟩
      rcases List.mem_cons.mp hz with e | hz
      · rw [e]; exact hxy'
      · exact lxt_neg hxy' (h1 z hz)
theorem sortX_pw : ∀ l : List (List Str), (sortX l).Pairwise fun a b => lxt b a = false
  | [] => List.Pairwise.nil
  | x :: r => insX_pw x (sortX_pw r)
theorem sortX_of {ms ns : List (List Str)} (hp : ms.Perm ns) (hw : ms.Pairwise fun a b => lxs b a = false) : ms = sortX ns := by
  simp only [lxs_eq] at hw
  exact List.Perm.eq_of_pairwise (le := fun a b => lxt b a = false) (fun a b _ _ h1 h2 => lxt_tri h2 h1) hw (sortX_pw ns) (hp.trans (sortX_perm ns).symm)
/-! ### rules -/
def unTx : D → Option (List Str)
  | .tup ds => unS ds
  | _ => none
def unX : List D → Option (List (List Str))
  | [] => some []
  | d :: r => match unTx d with
    | some (x :: xs) => (unX r).map ((x :: xs) :: ·)
    | _ => none
theorem unX_eq : ∀ {ds : List D} {xs : List (List Str)}, unX ds = some xs → ds = xs.map tx2 ∧ ∀ x ∈ xs, x ≠ []
  | [], _, h => by cases h; exact ⟨rfl, fun x hx => nomatch hx⟩
  | d :: r, _, h => by
    unfold unX at h
    split at h
    · rename_i x xs hd
      obtain ⟨ys, hy, e⟩ := Option.map_eq_some_iff.mp h
      obtain ⟨e1, e2⟩ := unX_eq hy
      subst e
      refine ⟨?_, fun z hz => ?_⟩
      · rw [List.map_cons, ← e1]
        congr 1
        unfold unTx at hd
        split at hd
        · rename_i zs
          unfold tx2
          rw [← unS_eq hd]
        · cases hd
      · rcases List.mem_cons.mp hz with e | hz
        · rw [e]; exact List.cons_ne_nil _ _
        · exact e2 z hz
    · cases h
theorem rn_tx2 {ρ : Nat → Addr} (x : List Str) : rn ρ (tx2 x) = tx2 x := by unfold tx2; rw [rn_tup, rn_strs]
theorem rn_txs {ρ : Nat → Addr} (xs : List (List Str)) : rnL ρ (xs.map tx2) = xs.map tx2 := by
  rw [rnL_map, List.map_map]
  exact List.map_congr_left fun x _ => rn_tx2 x
def srtO2 (ds : List D) : Option (List D) := match unI ds with
  | some ns => some ((sortI ns).map D.int)
  | none => match unS ds with
    | some xs => if xs.length < 64 then some ((sortT xs).map D.str) else none
    | none => (unX ds).bind fun xs => if xs.length < 64 then some ((sortX xs).map tx2) else none
def aSort2 (s : SE) : SA := fun Δ => (s Δ).bind fun d => ofO ((lsV d).bind srtO2)
section
variable {γ : Nat → Addr} {X : Cx} {a e : Expr} {pos p : Pos} {s : SE}
theorem l_sorted2 (hg : Gl X "sorted") (hm : X.mg "sorted" = none) (h : IV γ X e s) (hs : starEach [e] X.env = [(false, eval e X.env)] := by rfl) : IL γ X (.Call (.Name "sorted" p) [e] [] pos) (aSort2 s) := .mk fun b u M0 Δ Δr M n k S w => by
  refine el_callB ((cr_sortedI.or cr_sortedS).or DSet.cr_sorted2) hg hm (by decide +kernel) (by decide) (by decide) hs rfl (one1 (h.go b u M0 Δ Δr M n _ S ((wpB_bind.1 w).mono fun d n1 w1 M1 dr A1 V1 => ?_)) hs)
  obtain ⟨rs, h1, h2⟩ := wpB_ofO w1
  obtain ⟨ds, h3, h4⟩ := Option.bind_eq_some_iff.mp h1
  have hk := h2 M1 A1
  have hl := vw_ls h3 V1
  refine fun F0 M0' H0 F H vs Q st ok i post => ?_
  obtain ⟨v, rfl, iv⟩ := isL1 i
  unfold srtO2 at h4
  split at h4
  · rename_i ns hn
    cases h4
    rw [rn_ints] at hk
    rw [unI_eq hn, rn_ints] at hl
    obtain ⟨q, ws, rfl, hq, il⟩ := ls_of ok hl iv
    rw [(IsL.ints ns).1 il] at hq
    refine .inl (.inl ⟨q, ns, rfl, hq, fun ms r hp hw hr => ?_⟩)
    rw [sortI_of hp hw]
    exact post.new st ok hk hr ((IsL.ints _).2 rfl)
  · split at h4
    · rename_i xs hx
      split at h4
      · rename_i h64
        cases h4
        rw [rn_strs] at hk
        rw [unS_eq hx, rn_strs] at hl
        obtain ⟨q, ws, rfl, hq, il⟩ := ls_of ok hl iv
        rw [(IsL.strs xs).1 il] at hq
        refine .inl (.inr ⟨q, xs, rfl, hq, h64, fun ms r hp hw hr => ?_⟩)
        rw [sortT_of hp hw]
        exact post.new st ok hk hr ((IsL.strs _).2 rfl)
      · cases h4
    · obtain ⟨xs, hx, h5⟩ := Option.bind_eq_some_iff.mp h4
      obtain ⟨e1, e2⟩ := unX_eq hx
      split at h5
      · rename_i h64
        cases h5
        rw [rn_txs] at hk
        rw [e1, rn_txs] at hl
        obtain ⟨q, ws, rfl, hq, il⟩ := ls_of ok hl iv
        obtain ⟨ks, f1, f2, f3⟩ := txs_rows ok il
        subst f1
        refine .inr ⟨q, ks, rfl, hq, fun p hp => ⟨(f3 p hp).1, e2 p.2 (by rw [← f2]; exact List.mem_map.mpr ⟨p, hp, rfl⟩)⟩, by rw [← f2, List.length_map] at h64; exact h64, fun L r hp hw hr => ?_⟩
        have e := sortX_of (ns := xs) (by rw [← f2]; exact hp.map (·.2)) (List.pairwise_map.mpr hw)
        rw [← e] at hk
        exact post.new st ok hk hr (rows_txs fun p hp2 => (f3 p (hp.mem_iff.mp hp2)).2)
      · cases h5
end
end DL
end
section
set_option Elab.async false
set_option linter.all false
set_option maxRecDepth 100000
/-! DP: len(set(texts)), int(text), str(n), f-strings -/
namespace DSet
open PySem PySem.Spec PyProof.Rows L2
end DSet
namespace DL
open PySem L2
section
variable {γ : Nat → Addr} {X : Cx} {a e e2 : Expr} {pos p : Pos} {s t : SE} {Δ : DS} {M : Store} {k : DK}
/-! ### int(text), str(n) -/
def int2O : D → Option D
  | .int i => some (.int i)
  | .bl c => some (.int (if c then 1 else 0))
  | .str x => if x.length ≤ 640 then (PySem.intText? x).map D.int else none
  | _ => none
def IntC2 (d : D) (M : Store) (k : DK) : Prop := match d with
  | .int i => k (.int i) M
  | .bl c => k (.int (if c then 1 else 0)) M
  | .str x => ∃ n, PySem.intText? x = some n ∧ x.length ≤ 640 ∧ k (.int n) M
  | _ => False
theorem ev_intc2 (hg : Gl X "int") (hm : X.mg "int" = none) (h : EvD X e Δ M fun d M1 => IntC2 d M1 k) (hs : starEach [e] X.env = [(false, eval e X.env)] := by rfl) : EvD X (.Call (.Name "int" p) [e] [] pos) Δ M k :=
  ev_callT (call_int1.or call_int_str) hg hm (by decide +kernel) (by decide) (by decide) hs rfl (one1 (h.mono fun d M1 q F H vs Q ok i post => by
    obtain ⟨v, rfl, iv⟩ := isL1 i
    unfold IntC2 at q
    split at q
    · exact .inl (.inl ⟨_, by rw [is_int.1 iv], post.here ok q (is_int.2 rfl)⟩)
    · exact .inl (.inr ⟨_, by rw [is_bl.1 iv], post.here ok q (is_int.2 rfl)⟩)
    · obtain ⟨n, h1, h2, q⟩ := q
      exact .inr ⟨_, n, by rw [is_str.1 iv], h1, h2, post.here ok q (is_int.2 rfl)⟩
    · exact q.elim) hs)
theorem int2_ok : Ok1 IntC2 int2O := fun ρ x d M k e h => by
  unfold int2O at e
  split at e
  · cases e; rw [rn_int] at *; exact h
  · cases e; rw [rn_int] at h; rw [rn_bl]; exact h
  · split at e
    · rename_i hl
      obtain ⟨n, h1, h2⟩ := Option.map_eq_some_iff.mp e
      cases h2
      rw [rn_int] at h
      rw [rn_str]
      exact ⟨n, h1, hl, h⟩
    · cases e
  · cases e
theorem i_intc2 (hg : Gl X "int") (hm : X.mg "int" = none) (h : IE γ X e s) (hs : starEach [e] X.env = [(false, eval e X.env)] := by rfl) : IE γ X (.Call (.Name "int" p) [e] [] pos) (c1 int2O s) := i_one (fun _ _ _ h => ev_intc2 hg hm h hs) int2_ok h
/-! ### f"{a}..{b}" -/
end
end DL
end
section
set_option Elab.async false
set_option linter.all false
set_option maxRecDepth 100000
/-! bool <= bool -/
namespace DL
open PySem L2
section
variable {X : Cx} {γ : Nat → Addr} {M : Store} {k : DK} {Δ : DS} {a b e e2 : Expr} {pos p : Pos}
def rLeB : R2 := fun x y H Q => ∃ c d, x = .bl c ∧ y = .bl d ∧ Q (.bl (!c || d)) H
theorem op_leB : OpR X (compareOp .LtE) rLeB := by
  intro pins s σ H x y v u Q I rx ry h
  obtain ⟨c, d, rfl, rfl, q⟩ := h
  obtain rfl := rx
  obtain rfl := ry
  refine PyProof.Rows.le_bool (fin_bl I ?_ rfl)
  have e : decide (PyProof.Rows.b2i c ≤ PyProof.Rows.b2i d) = (!c || d) := by cases c <;> cases d <;> rfl
  rw [e]
  exact q
def rCo2 (op : CmpOp) : R2 := match op with
  | .LtE => fun x y H Q => rCo .LtE x y H Q ∨ rLeB x y H Q
  | op => rCo op
theorem op_co2 {op : CmpOp} : OpR X (compareOp op) (rCo2 op) := by
  cases op with
  | LtE => exact (op_co (op := .LtE)).or op_leB
  | _ => exact op_co
def CoP2 (op : CmpOp) (d1 d2 : D) (M : Store) (k : DK) : Prop := match op, d1, d2 with
  | .LtE, .bl c, .bl d => k (.bl (!c || d)) M
  | op, d1, d2 => CoP op d1 d2 M k
theorem p2_co2 {op : CmpOp} {d1 d2 : D} (h : CoP2 op d1 d2 M k) : P2 X (rCo2 op) d1 d2 M k := fun F H x y Q ok i1 i2 post => by
  unfold CoP2 at h
  split at h
  · exact .inr ⟨_, _, is_bl.1 i1, is_bl.1 i2, post.here ok h (is_bl.2 rfl)⟩
  · have q := p2_co h F H x y Q ok i1 i2 post
    cases op with
    | LtE => exact .inl q
    | _ => exact q
theorem c_co2 {op : CmpOp} (h : EvD X a Δ M fun d1 M1 => EvD X b Δ M1 fun d2 M2 => CoP2 op d1 d2 M2 k) : EvC X op a b Δ M k := c_op2 op_co2 (h.mono fun _ _ q => q.mono fun _ _ p => p2_co2 p)
def coO2 (op : CmpOp) (x y : D) : Option D := match op, x, y with
  | .LtE, .bl c, .bl d => some (.bl (!c || d))
  | op, x, y => coO op x y
theorem co_ok2 {op : CmpOp} : Ok2 (CoP2 op) (coO2 op) := fun ρ x y d M k e h => by
  unfold coO2 at e
  split at e
  · cases e
    rw [rn_bl, rn_bl]
    rw [rn_bl] at h
    exact h
  · rename_i hn
    have q := co_ok (op := op) ρ x y d M k e h
    unfold CoP2
    split
    · rename_i c' d' e1 e2
      exfalso
      have e3 : x = .bl c' := by
        cases x with
        | bl z => rw [rn_bl] at e1; exact e1
        | non => rw [rn_non] at e1; cases e1
        | int _ => rw [rn_int] at e1; cases e1
        | str _ => rw [rn_str] at e1; cases e1
        | ty _ => rw [rn_ty] at e1; cases e1
        | tup _ => rw [rn_tup] at e1; cases e1
        | lst _ => rw [rn_lst] at e1; cases e1
        | frl _ => rw [rn_frl] at e1; cases e1
        | dct _ _ => rw [rn_dct] at e1; cases e1
        | ins _ _ _ => rw [rn_ins] at e1; cases e1
        | cell _ => rw [rn_cell] at e1; cases e1
      subst e3
      unfold coO at e
      cases y <;> cases e
    · exact q
theorem k_co2 {op : CmpOp} {s t : SE} (ha : IE γ X a s) (hc : IE γ X b t) : IC γ X op a b (c2 (coO2 op) s t) := j_two (fun Δr M k h => c_co2 h) co_ok2 ha hc
end
end DL
end
section
set_option Elab.async false
set_option linter.all false
set_option maxRecDepth 100000
/-! isinstance(x, (list, tuple)) of instances; self.f in __init__ -/
namespace DL
open PySem L2
/-- an own class that is neither list nor tuple -/
structure NoLT (K : PySem.W.Frag) (C : Addr) : Prop where
  ty : TyC K C
  nl : PySem.W.kitOne K (.ref C) (.type "list") = some false
  nt : PySem.W.kitOne K (.ref C) (.type "tuple") = some false
section
variable {X : Cx} {γ : Nat → Addr} {M : Store} {k : DK} {Δ : DS} {a b e e2 : Expr} {es : List Expr} {pos p : Pos} {f x : Str} {s : SE} {c i : Nat}
def cIsiTC (cs : List Nat) (s : SE) (t : SA) : SE := fun Δ => (s Δ).bind fun x => (t Δ).bind fun ds => (ofO (unT ds)).bind fun ts => if ts.length ≤ 1000 then (match tyD x with
  | some z => ofO ((ktAny z ts).map D.bl)
  | none => match x with
    | .ins C _ _ => if (cs.any fun c => C == c + 1) = true ∧ (ts.all fun t => t == "list" || t == "tuple") = true then .ret (.bl false) else .fail
    | _ => .fail) else .fail
end
end DL
end
section
set_option Elab.async false
set_option linter.all false
set_option maxRecDepth 100000
/-! DP: list(zip(a, b)) as a program; shorter words for what stands often in a walk -/
namespace DL
open PySem L2
section
variable {γ : Nat → Addr} {X : Cx} {a c : Expr} {pos : Pos} {x : Str} {s : SE} {op : CmpOp}
theorem i_v {i : Nat} (hN : X.N[i]? = some x := by rfl) (hv : Vis X.env.scope x := by exact .inl rfl) (hd : (x == ("__debug__" : Str)) = false := by rfl) (hcd : (x == ("__classdict__" : Str)) = false := by rfl) : IE γ X (.Name x pos) (cVar i) := i_var hN hv hd hcd
theorem iv_v {i : Nat} (hN : X.N[i]? = some x := by rfl) (hv : Vis X.env.scope x := by exact .inl rfl) (hd : (x == ("__debug__" : Str)) = false := by rfl) (hcd : (x == ("__classdict__" : Str)) = false := by rfl) : IV γ X (.Name x pos) (cVw i) := iv_var hN hv hd hcd
theorem g_n {i : Nat} (hN : X.N.Nodup) (hi : X.N[i]? = some x := by rfl) (hx : Loc X.env.scope x := by first | exact .inl rfl | exact .inr rfl) (hf : X.fn x = true ∨ X.env.scope.names.lookup x = some .local := by first | exact .inr rfl | exact .inl rfl) : GT X (.Name x pos) (.nm i) [i] := g_name hN hi hx hf
theorem i_cm (h : IC γ X op a c s) (hm : behindInMarks op c = false := by first | exact nomark _ | rfl) : IE γ X (.Compare a [op] [c] pos) s := i_cmp hm h
theorem t_cm (h : IC γ X op a c s) (hm : behindInMarks op c = false := by first | exact nomark _ | rfl) : IT γ X (.Compare a [op] [c] pos) (tB s) := t_cmp hm h
end
end DL
end
section
set_option Elab.async false
set_option linter.all false
set_option maxRecDepth 100000
set_option maxHeartbeats 1000000
/-! [elt for a in xs for b in ys if ..] -/
namespace DL
open PySem L2 PyProof.Rows
/-- a walk that asks only that what is kept stays -/
structure ItRepW (K : PySem.W.Frag) (J : It) (ds : List D) (F : Hp) : Prop where
  go : ∀ i F' M' H', Same F F' → Ok K F' M' H' → i < ds.length → J.go i H'
  yld : ∀ i F' M' H' v H2, Same F F' → Ok K F' M' H' → i < ds.length → J.yld i H' v H2 → ∃ F2 d, ds[i]? = some d ∧ Stp F' M' H' F2 M' H2 ∧ Ok K F2 M' H2 ∧ Is K F2 d v
  stop : ∀ F' M' H', Same F F' → Ok K F' M' H' → J.stop ds.length H'
def ItW (X : Cx) (tg e : Expr) (Δ : DS) (M : Store) (k : AK) : Prop := ∀ F H σ (R : It → Hp → Prop), IsS X.K F Δ σ → Ok X.K F M H → (∀ ds M' F' H' J, k ds M' → Stp F M H F' M' H' → Ok X.K F' M' H' → ItRepW X.K J ds F' → R J H') → SemI X tg e σ H R
structure IIW (γ : Nat → Addr) (X : Cx) (tg e : Expr) (s : SA) : Prop where
  go : ∀ b u M0 Δ Δr M n (k : AK), SI γ b u M0 Δ Δr M n → wpB b n (s Δ) (fun d n' => ∀ M', Aft b u M M' n' → k (rnL (rho γ u) d) M') → ItW X tg e Δr M k
section
variable {γ : Nat → Addr} {X : Cx} {e tg : Expr} {s : SE}
end
section
variable {X : Cx} {Δ : DS} {M : Store} {ka : AK} {tg tg1 : Expr} {pos : Pos}
end
/-! the program -/
section
variable {γ : Nat → Addr} {X : Cx} {tg tg1 : Expr} {pos : Pos}
end
/-! ### *text -/
section
variable {γ : Nat → Addr} {X : Cx} {e : Expr} {es : List Expr} {te : TE} {t : TA} {p : Pos} {Δ : DS} {M : Store} {s : SE} {A : SA}
end
/-! ### f(a, .., x=b) -/
section
variable {γ : Nat → Addr} {X : Cx} {e : Expr} {es : List Expr} {p pos : Pos} {x : Str} {n : Nat} {F : List D → Pg D} {kws : List Keyword} {kn : List Str}
end
end DL
end
section
set_option Elab.async false
set_option linter.all false
set_option maxRecDepth 100000
/-! plain evaluation -/
namespace DL
open PySem
theorem unI_map : ∀ xs : List Int, unI (xs.map D.int) = some xs
  | [] => rfl
  | x :: xs => by
    show (unI (xs.map D.int)).map (x :: ·) = _
    rw [unI_map xs]; rfl
theorem unB_map : ∀ xs : List Bool, unB (xs.map D.bl) = some xs
  | [] => rfl
  | x :: xs => by
    show (unB (xs.map D.bl)).map (x :: ·) = _
    rw [unB_map xs]; rfl
section
variable {α β : Type} {a : α} {f : α → Pg β} {x y : D} {r : List Sl} {i : Nat} {z : Sl} {Δ : List Sl} {d : D}
theorem bind_ret : (Pg.ret a).bind f = f a := rfl
theorem bind_fail : (Pg.fail : Pg α).bind f = .fail := rfl
theorem bind_draw {low : Int} {g : Int → Pg α} : (Pg.draw low g).bind f = .draw low fun d => (g d).bind f := rfl
theorem intOf_e {i : Int} : intOf (.int i) = some i := rfl
theorem ownL_z {ds : List D} : ownL (.o (.lst ds) :: r) 0 = some ds := rfl
theorem ownL_s : ownL (z :: r) (i + 1) = ownL r i := rfl
theorem xApp_e {s : SX} : xApp i s Δ = (ofO (ownL Δ i)).bind fun _ => (s Δ).bind fun r => (ofO (ownL r.2 i)).bind fun ds => if ds.length < lim then .ret (.non, r.2.set i (.o (.lst (ds ++ [r.1])))) else .fail := rfl
theorem xPop_e {s : SE} : xPop i s Δ = (ofO (ownL Δ i)).bind fun ds => (s Δ).bind fun y => (ofO (intOf y)).bind fun z => if inR z = true then (ofO (seqIndex? z ds.length)).bind fun j => (ofO ds[j]?).bind fun r => .ret (r, Δ.set i (.o (.lst (ds.eraseIdx j)))) else .fail := rfl
theorem ofO_some : ofO (some a) = .ret a := rfl
theorem cVar_z : cVar 0 (.v d :: r) = .ret d := rfl
theorem cVar_s : cVar (i + 1) (z :: r) = cVar i r := rfl
theorem cVw_z : cVw 0 (.v d :: r) = .ret d := rfl
theorem cVw_w : cVw 0 (.w d :: r) = .ret d := rfl
theorem cVw_o {ds : List D} : cVw 0 (.o (.lst ds) :: r) = .ret (.lst ds) := rfl
theorem cVw_s : cVw (i + 1) (z :: r) = cVw i r := rfl
theorem cC_e : cC d Δ = .ret d := rfl
theorem c1_e {g : D → Option D} {s : SE} : c1 g s Δ = (s Δ).bind fun x => ofO (g x) := rfl
theorem c2_e {g : D → D → Option D} {s t : SE} : c2 g s t Δ = (s Δ).bind fun x => (t Δ).bind fun y => ofO (g x y) := rfl
theorem aN_e : aN Δ = .ret [] := rfl
theorem aC_e {s : SE} {t : SA} : aC s t Δ = (s Δ).bind fun d => (t Δ).bind fun ds => .ret (d :: ds) := rfl
theorem cL_e {s : SA} : cL s Δ = (s Δ).bind fun ds => .ret (.lst ds) := rfl
theorem cCall_e {F : List D → Pg D} {s : SA} : cCall F s Δ = (s Δ).bind F := rfl
theorem cMk_e {c : Nat} {F : List D → Pg D} {s : SA} {ad : List D} : cMk c F s ad Δ = (s Δ).bind fun ds => mkP c F (ds ++ ad) := rfl
theorem cIf_e {t : SB} {s r : SE} : cIf t s r Δ = (t Δ).bind fun c => if c = true then s Δ else r Δ := rfl
theorem tB_e {s : SE} : tB s Δ = (s Δ).bind fun d => ofO (toB d) := rfl
theorem tT_e {s : SE} : tT s Δ = (s Δ).bind fun d => ofO (truO d) := rfl
theorem tNot_e {s : SB} : tNot s Δ = (s Δ).bind fun d => .ret (!d) := rfl
theorem tAnd_e {s t : SB} : tAnd s t Δ = (s Δ).bind fun c => if c = true then t Δ else .ret false := rfl
theorem tOr_e {s t : SB} : tOr s t Δ = (s Δ).bind fun c => if c = true then .ret true else t Δ := rfl
theorem eAnd_e {s t : SE} : eAnd s t Δ = (s Δ).bind fun d => (ofO (toB d)).bind fun c => if c = true then t Δ else .ret (.bl false) := rfl
theorem eOr_e {s t : SE} : eOr s t Δ = (s Δ).bind fun d => (ofO (truO d)).bind fun c => if c = true then .ret d else t Δ := rfl
theorem cNot_e {s : SE} : cNot s Δ = (s Δ).bind fun d => (ofO (toB d)).bind fun c => .ret (.bl (!c)) := rfl
theorem toB_e {c : Bool} : toB (.bl c) = some c := rfl
theorem truO_bl {c : Bool} : truO (.bl c) = some c := rfl
theorem cTup_e {s : SA} : cTup s Δ = (s Δ).bind fun ds => if ds.length ≤ lim then .ret (.tup ds) else .fail := rfl
theorem aL_e {s : SA} : aL s Δ = (s Δ).bind fun ds => if ds.length ≤ lim then .ret ds else .fail := rfl
theorem cProp_e {c : Nat} {F : List D → Pg D} {s : SE} : cProp c F s Δ = (s Δ).bind fun d => if isC c d = true then F [d] else .fail := rfl
theorem cOwn_e {c : Nat} {F : List D → Pg D} {s t : SE} : cOwn c F s t Δ = (s Δ).bind fun d => (t Δ).bind fun d2 => if (isC c d && isC c d2) = true then F [d, d2] else .fail := rfl
theorem cOwnIn_e {neg : Bool} {c : Nat} {F : List D → Pg D} {s t : SE} : cOwnIn neg c F s t Δ = (s Δ).bind fun d => (t Δ).bind fun d2 => if isC c d2 = true then (F [d2, d]).bind fun r => (ofO (toB r)).bind fun z => .ret (.bl (if neg then !z else z)) else .fail := rfl
theorem aLc_e {tg : Tg} {vs : List Nat} {it : SA} {t : SB} {el : SE} : aLc tg vs it t el Δ = (it Δ).bind fun ds => if ds.length ≤ lim then lcP tg t el (wipeS Δ vs) ds else .fail := rfl
theorem aIt_e {s : SE} : aIt s Δ = (s Δ).bind fun d => ofO (itO d) := rfl
theorem aSort_e {s : SE} : aSort s Δ = (s Δ).bind fun d => ofO ((lsV d).bind srtO) := rfl
theorem aRg1_e {s : SE} : aRg1 s Δ = (s Δ).bind fun d => ofO (rg1 d) := rfl
theorem aZip_e {s t : SE} : aZip s t Δ = (s Δ).bind fun d => (t Δ).bind fun c => ofO (zip2 d c) := rfl
theorem aEnum_e {s : SE} : aEnum s Δ = (s Δ).bind fun d => ofO ((lsV d).map enumD) := rfl
theorem aList_e {s : SE} : aList s Δ = (s Δ).bind fun d => ofO (itemsV d) := rfl
theorem tSeq_e {t r : ST} : DL.tSeq t r Δ = (t Δ).bind fun o => match o with
  | .nx Δ1 => r Δ1
  | o => .ret o := rfl
theorem tNil_e : DL.tNil Δ = .ret (.nx Δ) := rfl
theorem tRet_e {s : SE} : DL.tRet s Δ = (s Δ).bind fun d => .ret (.rt d) := rfl
theorem tIf_e {t : SB} {r q : ST} : DL.tIf t r q Δ = (t Δ).bind fun c => if c = true then r Δ else q Δ := rfl
theorem tSet_e {s : List Sl → Pg Sl} : tSet i s Δ = (s Δ).bind fun sl => .ret (.nx (Δ.set i sl)) := rfl
theorem oV_e {s : SE} : oV s Δ = (s Δ).bind fun d => .ret (.v d) := rfl
theorem oL_e {s : SA} : oL s Δ = (s Δ).bind fun ds => .ret (.o (.lst ds)) := rfl
theorem xE_e {s : SE} : xE s Δ = (s Δ).bind fun d => .ret (d, Δ) := rfl
theorem tX_e {s : SX} : tX s Δ = (s Δ).bind fun r => .ret (.nx r.2) := rfl
theorem tAsg_e {t : Tg} {s : SX} : DL.tAsg t s Δ = (s Δ).bind fun r => (ofO (tgS t r.1 r.2)).bind fun Δ1 => .ret (.nx Δ1) := rfl
theorem tFor_e {tg : Tg} {it : SA} {body : ST} : DL.tFor tg it body Δ = (it Δ).bind fun ds => forP tg body ds Δ := rfl
theorem tFrz_e {t : ST} : tFrz i t Δ = t (frzS i Δ) := rfl
theorem tPar_e {i j : Nat} {s t : List Sl → Pg Sl} : tPar i j s t Δ = (s Δ).bind fun d => (t Δ).bind fun c => .ret (.nx ((Δ.set i d).set j c)) := rfl
theorem ite_t {γ : Type} {p q : γ} : (if (true : Bool) = true then p else q) = p := rfl
theorem ite_f {γ : Type} {p q : γ} : (if (false : Bool) = true then p else q) = q := rfl
end
def outP : Out → Pg D
  | .nx _ => .ret .non
  | .rt d => .ret d
  | _ => .fail
theorem outP_rt {d : D} : outP (.rt d) = .ret d := rfl
theorem outP_nx {Δ : List Sl} : outP (.nx Δ) = .ret .non := rfl
theorem runF_at {fl : List Bool} {np N : Nat} {t : ST} {ds : List D} (Δ : List Sl) (h : ds.length = np) (hΔ : startS fl N ds = Δ) : runF fl np N t ds = (t Δ).bind outP := by
  subst hΔ
  exact if_pos h
theorem bind_assoc {α β δ : Type} (f : α → Pg β) (g : β → Pg δ) : ∀ p : Pg α, (p.bind f).bind g = p.bind fun a => (f a).bind g
  | .ret a => rfl
  | .fail => rfl
  | .draw low k => by
    show Pg.draw low _ = Pg.draw low _
    congr 1
    funext d
    exact bind_assoc f g (k d)
/-- a comprehension whose parts are plain -/
theorem lcP_plain {α : Type} {tg : Tg} {t : SB} {el : SE} {Δ : List Sl} (enc : α → D) (p : α → Bool) (f : α → D) : ∀ (xs : List α), (∀ x ∈ xs, ∃ Δ1, tgS tg (enc x) Δ = some Δ1 ∧ t Δ1 = .ret (p x) ∧ (p x = true → el Δ1 = .ret (f x))) → lcP tg t el Δ (xs.map enc) = .ret ((xs.filter p).map f)
  | [], _ => rfl
  | x :: xs, h => by
    obtain ⟨Δ1, h1, h2, h3⟩ := h x (List.mem_cons_self ..)
    have ih := lcP_plain enc p f xs fun y hy => h y (List.mem_cons_of_mem _ hy)
    show ((ofO (tgS tg (enc x) Δ)).bind fun Δ1 => (t Δ1).bind fun c => if c = true then (el Δ1).bind fun r => (lcP tg t el Δ (xs.map enc)).bind fun rs => .ret (r :: rs) else lcP tg t el Δ (xs.map enc)) = _
    rw [h1]
    show ((t Δ1).bind _) = _
    rw [h2]
    cases hp : p x with
    | true =>
      show ((el Δ1).bind _) = _
      rw [h3 hp, ih, List.filter_cons_of_pos hp]
      rfl
    | false =>
      show lcP tg t el Δ (xs.map enc) = _
      rw [ih, List.filter_cons_of_neg (by rw [hp]; decide)]
theorem inL_strs (x : Str) : ∀ xs : List Str, inL (.str x) (xs.map D.str) = some (decide (x ∈ xs))
  | [] => by simp [inL]
  | y :: xs => by
    have ih := inL_strs x xs
    rw [List.map_cons]
    unfold inL
    rw [ih]
    show some (L2.eqV (.str y) (.str x) || decide (x ∈ xs)) = _
    have e : L2.eqV (.str y) (.str x) = decide (x = y) := by
      show (y == x) = _
      by_cases h : y = x
      · simp [h]
      · have h' : ¬ x = y := fun z => h z.symm
        simp [h, h']
    rw [e]
    simp
theorem in_strs {neg : Bool} {d : D} {x : Str} {xs : List Str} (h : seqV d = some (xs.map D.str)) : inO neg (.str x) d = some (.bl (if neg then !decide (x ∈ xs) else decide (x ∈ xs))) := by
  unfold inO
  rw [h]
  show ((inL (.str x) (xs.map D.str)).bind _) = _
  rw [inL_strs]
  rfl
theorem inR_nat {n : Nat} (h : n ≤ 1000000000) : inR (n : Int) = true := by
  exact Nat.ble_eq_true_of_le (by show n ≤ _; omega)
/-! ### what is drawn: at most c draws, then k -/
def Co {α : Type} (b : Bool) (c : Nat) (p : Pg α) (k : α → Prop) : Prop := ∀ n, wpB b (n + c) p fun a m => n ≤ m ∧ k a
section
variable {α β : Type} {b : Bool} {c c2 : Nat} {p : Pg α} {k k2 : α → Prop}
theorem Co.ret {a : α} (h : k a) : Co b c (.ret a) k := fun n => ⟨Nat.le_add_right _ _, h⟩
theorem Co.mono (h : Co b c p k) (hk : ∀ a, k a → k2 a) : Co b c p k2 := fun n => (h n).mono fun a m ⟨h1, h2⟩ => ⟨h1, hk a h2⟩
theorem Co.le (h : Co b c p k) (l : c ≤ c2) : Co b c2 p k := fun n => by
  have q := h (n + (c2 - c))
  rw [show n + (c2 - c) + c = n + c2 by omega] at q
  exact q.mono fun a m ⟨h1, h2⟩ => ⟨by omega, h2⟩
theorem Co.bind {f : α → Pg β} {kb : β → Prop} (h : Co b c p fun a => Co b c2 (f a) kb) : Co b (c + c2) (p.bind f) kb := fun n => wpB_bind.2 (by
  have q := h (n + c2)
  rw [show n + c2 + c = n + (c + c2) by omega] at q
  refine q.mono fun a m ⟨h1, h2⟩ => ?_
  have q2 := h2 (m - c2)
  rw [show m - c2 + c2 = m by omega] at q2
  exact q2.mono fun a m2 ⟨h3, h4⟩ => ⟨by omega, h4⟩)
theorem Co.draw {low : Int} {f : Int → Pg α} (h0 : 0 < low) (h1 : low < 2 ^ 200) (h : ∀ d, 0 ≤ d → d < low → Co true c (f d) k) : Co true (c + 1) (.draw low f) k := fun n => ⟨rfl, h0, h1, n + c, by omega, fun d d0 d1 => h d d0 d1 n⟩
theorem Co.wp {n : Nat} (h : Co b c p k) (l : c ≤ n) : wpB b n p fun a _ => k a := by
  have q := h (n - c)
  rw [show n - c + c = n by omega] at q
  exact q.mono fun a m z => z.2
/-- a loop -/
theorem co_for {tg : Tg} {body : ST} {I : Nat → List Sl → Prop} {ds : List D} (c : Nat) : ∀ (i : Nat) (Δ : List Sl), (∀ j d Δ, ds[j]? = some d → I j Δ → Co b c ((ofO (tgS tg d Δ)).bind body) fun o => ∃ Δ', (o = .nx Δ' ∨ o = .ct Δ') ∧ I (j + 1) Δ') → I i Δ → i ≤ ds.length →
    Co b ((ds.length - i) * c) (forP tg body (ds.drop i) Δ) fun o => ∃ Δ', o = .nx Δ' ∧ I ds.length Δ' := fun i Δ h => by
  generalize hm : ds.length - i = m
  induction m generalizing i Δ with
  | zero =>
    intro hI hi
    have e : i = ds.length := by omega
    subst e
    rw [List.drop_length]
    exact Co.ret ⟨Δ, rfl, hI⟩
  | succ m ih =>
    intro hI hi
    have hlt : i < ds.length := by omega
    rw [List.drop_eq_getElem_cons hlt]
    have e1 : forP tg body (ds[i] :: ds.drop (i + 1)) Δ = (((ofO (tgS tg ds[i] Δ)).bind body).bind fun o => match o with
      | .nx Δ2 => forP tg body (ds.drop (i + 1)) Δ2
      | .ct Δ2 => forP tg body (ds.drop (i + 1)) Δ2
      | .bk Δ2 => .ret (.nx Δ2)
      | .rt d => .ret (.rt d)) := by rw [bind_assoc]; rfl
    rw [e1, Nat.succ_mul, Nat.add_comm]
    refine Co.bind ((h i ds[i] Δ (List.getElem?_eq_getElem hlt) hI).mono fun o ⟨Δ', ho, hI'⟩ => ?_)
    rcases ho with rfl | rfl
    · exact ih (i + 1) Δ' (by omega) hI' (by omega)
    · exact ih (i + 1) Δ' (by omega) hI' (by omega)
end
end DL
end
section
set_option Elab.async false
set_option linter.all false
set_option maxRecDepth 100000
/-! TY: typed readings of the programs -/
namespace DL
open PySem L2
@[reducible] def eI : Int → D := D.int
@[reducible] def eB : Bool → D := D.bl
@[reducible] def eS : Str → D := D.str
@[reducible] def eD : D → D := fun d => d
@[reducible] def eU : Unit → D := fun _ => .cell 0
def eL {α : Type} (f : α → D) (xs : List α) : D := .lst (xs.map f)
def eT {α : Type} (f : α → D) (xs : List α) : D := .tup (xs.map f)
def e2 {α β : Type} (f : α → D) (g : β → D) (p : α × β) : D := .tup [f p.1, g p.2]
def e3 {α β γ : Type} (f : α → D) (g : β → D) (h : γ → D) (p : α × β × γ) : D := .tup [f p.1, g p.2.1, h p.2.2]
def eO {α : Type} (f : α → D) : Option α → D
  | none => .non
  | some a => f a
def eM {α : Type} (f : α → D) (m : List (Str × α)) : D := .dct (m.map fun p => .inr p.1) (m.map fun p => f p.2)
section
variable {Δ : List Sl} {s t r : SE} {i j : Nat} {d e c : D} {ds es : List D} {A : SA} {T U : SB} {α β δ : Type} {f : α → D} {g : β → D} {xs ys : List α}
theorem q_var (h : Δ[i]? = some (.v d)) : cVar i Δ = .ret d := by unfold cVar; rw [h]
theorem q_vw (h : Δ[i]? = some (.v d)) : cVw i Δ = .ret d := by unfold cVw; rw [h]
theorem q_vww (h : Δ[i]? = some (.w d)) : cVw i Δ = .ret d := by unfold cVw; rw [h]
theorem q_C : cC d Δ = .ret d := rfl
theorem q_1 {o : D → Option D} (hs : s Δ = .ret d) (hg : o d = some e) : c1 o s Δ = .ret e := by
  show (s Δ).bind _ = _
  rw [hs, bind_ret, hg]
  rfl
theorem q_2 {o : D → D → Option D} (hs : s Δ = .ret d) (ht : t Δ = .ret e) (hg : o d e = some c) : c2 o s t Δ = .ret c := by
  show (s Δ).bind _ = _
  rw [hs, bind_ret, ht, bind_ret, hg]
  rfl
theorem q_aN : aN Δ = .ret [] := rfl
theorem q_aC (hs : s Δ = .ret d) (ht : A Δ = .ret ds) : aC s A Δ = .ret (d :: ds) := by
  show (s Δ).bind _ = _
  rw [hs, bind_ret, ht]
  rfl
theorem q_call {F : List D → Pg D} (ha : A Δ = .ret ds) (hF : F ds = .ret d) : cCall F A Δ = .ret d := by
  show (A Δ).bind F = _
  rw [ha]; exact hF
theorem q_tup (ha : A Δ = .ret ds) (hl : ds.length ≤ lim := by exact Nat.le_of_ble_eq_true rfl) : cTup A Δ = .ret (.tup ds) := by
  show (A Δ).bind _ = _
  rw [ha, bind_ret, if_pos hl]
theorem q_aL (ha : A Δ = .ret ds) (hl : ds.length ≤ lim := by exact Nat.le_of_ble_eq_true rfl) : aL A Δ = .ret ds := by
  show (A Δ).bind _ = _
  rw [ha, bind_ret, if_pos hl]
theorem q_cL (ha : A Δ = .ret ds) : cL A Δ = .ret (.lst ds) := by
  show (A Δ).bind _ = _
  rw [ha]; rfl
theorem q_cLL (ha : A Δ = .ret (xs.map f)) : cL A Δ = .ret (eL f xs) := q_cL ha
/-! tests -/
theorem q_tB {b : Bool} (hs : s Δ = .ret (.bl b)) : tB s Δ = .ret b := by
  show (s Δ).bind _ = _
  rw [hs]; rfl
theorem q_tT {b : Bool} (hs : s Δ = .ret d) (h : truO d = some b) : tT s Δ = .ret b := by
  show (s Δ).bind _ = _
  rw [hs, bind_ret, h]; rfl
theorem q_tNot {b : Bool} (hs : T Δ = .ret b) : tNot T Δ = .ret (!b) := by
  show (T Δ).bind _ = _
  rw [hs]; rfl
theorem q_tAnd {b c : Bool} (hs : T Δ = .ret b) (ht : b = true → U Δ = .ret c) : tAnd T U Δ = .ret (b && c) := by
  show (T Δ).bind _ = _
  rw [hs, bind_ret]
  cases b with
  | true => exact ht rfl
  | false => rfl
theorem q_tOr {b c : Bool} (hs : T Δ = .ret b) (ht : b = false → U Δ = .ret c) : tOr T U Δ = .ret (b || c) := by
  show (T Δ).bind _ = _
  rw [hs, bind_ret]
  cases b with
  | true => rfl
  | false => exact ht rfl
theorem q_yes : DL.tYes Δ = .ret true := rfl
theorem q_eAnd {b c : Bool} (hs : s Δ = .ret (.bl b)) (ht : b = true → t Δ = .ret (.bl c)) : eAnd s t Δ = .ret (.bl (b && c)) := by
  show (s Δ).bind _ = _
  rw [hs]
  cases b with
  | true => exact ht rfl
  | false => rfl
theorem q_cNot {b : Bool} (hs : s Δ = .ret (.bl b)) : cNot s Δ = .ret (.bl (!b)) := by
  show (s Δ).bind _ = _
  rw [hs]; rfl
/-! what the operators make of typed things -/
theorem o_addI {a b : Int} : addO (.int a) (.int b) = some (.int (a + b)) := rfl
theorem o_subI {a b : Int} : subO (.int a) (.int b) = some (.int (a - b)) := rfl
theorem o_negI {a : Int} : negO (.int a) = some (.int (-a)) := rfl
theorem o_addT (h : xs.length + ys.length ≤ lim) : addO (eT f xs) (eT f ys) = some (eT f (xs ++ ys)) := by
  unfold eT
  rw [List.map_append]
  exact if_pos (by rw [List.length_map, List.length_map]; exact h)
theorem o_neS {a b : Str} : eqO true (.str a) (.str b) = some (.bl (!decide (a = b))) := rfl
theorem o_nonO {neg : Bool} {a : Option α} (h : ∀ x, isNon (f x) = false) : nonO neg (eO f a) = some (.bl (if neg = true then !a.isNone else a.isNone)) := by
  unfold nonO
  cases a with
  | none => cases neg <;> rfl
  | some x =>
    show some (D.bl (if neg then !isNon (f x) else isNon (f x))) = _
    rw [h x]
    cases neg <;> rfl
theorem o_lenL : lenO' (eL f xs) = some (.int (xs.length : Nat)) := by
  show some (D.int ((xs.map f).length : Nat)) = _
  rw [List.length_map]
theorem o_tupL : tupO (eL f xs) = some (eT f xs) := rfl
theorem o_truB {b : Bool} : truO (.bl b) = some b := rfl
theorem o_sum {ns : List Int} : sumO (eL D.int ns) = some (.int ns.sum) := by
  show ((unI (ns.map D.int)).map _) = _
  rw [unI_map]; rfl
theorem o_all {ns : List Bool} : allO (eL D.bl ns) = some (.bl (ns.all id)) := by
  show ((unB (ns.map D.bl)).map _) = _
  rw [unB_map]; rfl
theorem o_any {ns : List Bool} : anyO (eL D.bl ns) = some (.bl (ns.any id)) := by
  show ((unB (ns.map D.bl)).map _) = _
  rw [unB_map]; rfl
theorem o_ninSL {x : Str} {zs : List Str} : inO true (.str x) (eL D.str zs) = some (.bl (!decide (x ∈ zs))) := in_strs (neg := true) rfl
/-! items, slices -/
theorem atI_map {i : Int} : atI (xs.map f) i = (atI xs i).map f := by
  unfold atI
  rw [List.length_map]
  cases ixN xs.length i with
  | none => rfl
  | some j => simp
theorem o_ixL {i : Int} {x : α} (h : atI xs i = some x) : ixO (eL f xs) (.int i) = some (f x) := by
  show atI (xs.map f) i = _
  rw [atI_map, h]; rfl
theorem o_ixT {i : Int} {x : α} (h : atI xs i = some x) : ixO (eT f xs) (.int i) = some (f x) := by
  show atI (xs.map f) i = _
  rw [atI_map, h]; rfl
def ixD [Inhabited α] (xs : List α) (i : Int) : α := (atI xs i).getD default
theorem ixD_some [Inhabited α] {i : Int} (h : (atI xs i).isSome = true) : atI xs i = some (ixD xs i) := by
  unfold ixD
  cases q : atI xs i with
  | none => rw [q] at h; cases h
  | some x => rfl
theorem o_ixLD [Inhabited α] {i : Int} (h : (atI xs i).isSome = true) : ixO (eL f xs) (.int i) = some (f (ixD xs i)) := o_ixL (ixD_some h)
theorem o_ixTD [Inhabited α] {i : Int} (h : (atI xs i).isSome = true) : ixO (eT f xs) (.int i) = some (f (ixD xs i)) := o_ixT (ixD_some h)
def cutL (xs : List α) (lo hi : Option Int) : List α := (xs.drop (HT.sIx xs.length 0 lo)).take (HT.sIx xs.length xs.length hi - HT.sIx xs.length 0 lo)
theorem cut_map {lo hi : Option Int} : cutD (xs.map f) lo hi = (cutL xs lo hi).map f := by
  unfold cutD cutL
  rw [List.length_map, List.map_take, List.map_drop]
theorem o_slT {lo hi : Option Int} : slO (eT f xs) lo hi = some (eT f (cutL xs lo hi)) := by
  show some (D.tup (cutD (xs.map f) lo hi)) = _
  rw [cut_map]; rfl
/-! iterables: the list of the items -/
theorem q_itL (hs : s Δ = .ret (eL f xs)) : aIt s Δ = .ret (xs.map f) := by
  show (s Δ).bind _ = _
  rw [hs]; rfl
theorem q_itT (hs : s Δ = .ret (eT f xs)) : aIt s Δ = .ret (xs.map f) := by
  show (s Δ).bind _ = _
  rw [hs]; rfl
def enumL (xs : List α) : List (Int × α) := xs.zipIdx.map fun q => ((q.2 : Nat), q.1)
theorem q_enumL (hs : s Δ = .ret (eL f xs)) : aEnumA s Δ = .ret ((enumL xs).map (e2 eI f)) := by
  show (s Δ).bind _ = _
  rw [hs]
  show Pg.ret (enumD (xs.map f)) = _
  unfold enumD enumL
  rw [List.zipIdx_map, List.map_map, List.map_map]; rfl
def rngI (lo : Int) (n : Nat) : List Int := (List.range n).map fun i => lo + (i : Nat)
theorem rngD_is (lo : Int) (n : Nat) : rngD lo n = (rngI lo n).map D.int := by
  unfold rngD rngI
  rw [List.map_map]; rfl
theorem q_rg1 {n : Int} (hs : s Δ = .ret (.int n)) (h : inR n = true) : aRg1 s Δ = .ret ((rngI 0 n.toNat).map D.int) := by
  show (s Δ).bind _ = _
  rw [hs, bind_ret]
  show ofO (if inR n = true then some (rngD 0 n.toNat) else none) = _
  rw [if_pos h, rngD_is]; rfl
/-! comprehensions -/
theorem q_lc {tg : Tg} {vs : List Nat} {p : α → Bool} {v : α → β} (hi : A Δ = .ret (xs.map f)) (hl : xs.length ≤ lim) (h : ∀ x ∈ xs, ∃ Δ1, tgS tg (f x) (wipeS Δ vs) = some Δ1 ∧ T Δ1 = .ret (p x) ∧ (p x = true → s Δ1 = .ret (g (v x)))) : aLc tg vs A T s Δ = .ret (((xs.filter p).map v).map g) := by
  show (A Δ).bind _ = _
  rw [hi, bind_ret, if_pos (by rw [List.length_map]; exact hl), List.map_map]
  exact lcP_plain f p (fun x => g (v x)) xs h
theorem q_lc0 {tg : Tg} {vs : List Nat} {v : α → β} (hi : A Δ = .ret (xs.map f)) (hl : xs.length ≤ lim) (h : ∀ x ∈ xs, ∃ Δ1, tgS tg (f x) (wipeS Δ vs) = some Δ1 ∧ s Δ1 = .ret (g (v x))) : aLc tg vs A DL.tYes s Δ = .ret ((xs.map v).map g) := by
  have q := q_lc (tg := tg) (vs := vs) (T := DL.tYes) (s := s) (p := fun _ => true) (v := v) (g := g) hi hl fun x hx => by
    obtain ⟨Δ1, h1, h2⟩ := h x hx
    exact ⟨Δ1, h1, rfl, fun _ => h2⟩
  rw [List.filter_eq_self.mpr (fun _ _ => rfl)] at q
  exact q
/-! dicts -/
def kget (m : List (Str × α)) (k : Str) : Option α := match m with
  | [] => none
  | p :: m => if p.1 = k then some p.2 else kget m k
def kput (m : List (Str × α)) (k : Str) (v : α) : List (Str × α) := if (m.any fun p => decide (p.1 = k)) = true then m.map fun p => if p.1 = k then (p.1, v) else p else m ++ [(k, v)]
theorem valD_map {k : Str} : ∀ m : List (Str × α), valD (m.map fun p => Sum.inr p.1) (m.map fun p => f p.2) (.inr k) = (kget m k).map f
  | [] => rfl
  | p :: m => by
    unfold kget
    rw [List.map_cons, List.map_cons]
    unfold valD
    by_cases h : p.1 = k
    · rw [if_pos (by rw [h]), if_pos h]; rfl
    · rw [if_neg (fun z => h (by cases z; rfl)), if_neg h]; exact valD_map m
theorem o_dninS {m : List (Str × α)} {k : Str} : dinO true (.str k) (eM f m) = some (.bl (!(kget m k).isSome)) := by
  show some (D.bl (!(valD _ _ (.inr k)).isSome)) = _
  rw [valD_map, Option.isSome_map]
theorem o_dix [Inhabited α] {m : List (Str × α)} {k : Str} (h : (kget m k).isSome = true) : dixO (eM f m) (.str k) = some (f ((kget m k).getD default)) := by
  show valD _ _ (.inr k) = _
  rw [valD_map]
  cases q : kget m k with
  | none => rw [q] at h; cases h
  | some x => rfl
theorem q_get {m : List (Str × α)} {k : Str} {z : α} (hs : s Δ = .ret (eM f m)) (ht : t Δ = .ret (.str k)) (hr : r Δ = .ret (f z)) : cGet s t r Δ = .ret (f ((kget m k).getD z)) := by
  show (s Δ).bind _ = _
  rw [hs, bind_ret]
  show (t Δ).bind _ = _
  rw [ht, bind_ret]
  show (r Δ).bind _ = _
  rw [hr, bind_ret]
  show Pg.ret ((valD _ _ (.inr k)).getD (f z)) = _
  rw [valD_map]
  cases kget m k <;> rfl
theorem q_keys {m : List (Str × α)} (hs : s Δ = .ret (eM f m)) : aKeys s Δ = .ret ((m.map fun p => p.1).map D.str) := by
  show (s Δ).bind _ = _
  rw [hs]
  show Pg.ret ((m.map fun p => Sum.inr p.1).map keyD) = _
  rw [List.map_map, List.map_map]; rfl
theorem q_cnt {zs : List Str} {z : Str} (hs : s Δ = .ret (eT D.str zs)) (ht : t Δ = .ret (.str z)) (hl : zs ≠ []) : cCnt s t Δ = .ret (.int (zs.dropLast.count z : Nat)) := by
  have e : ∀ zs : List Str, strL1 (zs.map D.str) = some zs := fun zs => by
    induction zs with
    | nil => rfl
    | cons a zs ih =>
      show (strL1 (zs.map D.str)).map _ = _
      rw [ih]; rfl
  show (s Δ).bind _ = _
  rw [hs, bind_ret]
  show (ofO ((strL1 (zs.map D.str)).bind fun zs => if zs.isEmpty then none else some zs)).bind _ = _
  rw [e]
  show (ofO (if zs.isEmpty then none else some zs)).bind _ = _
  rw [if_neg (by cases zs with | nil => exact absurd rfl hl | cons _ _ => exact Bool.false_ne_true)]
  show (t Δ).bind _ = _
  rw [ht]; rfl
theorem dput_map {m : List (Str × α)} {k : Str} {v : α} : dputD (m.map fun p => Sum.inr p.1) (m.map fun p => f p.2) (.inr k) (f v) = ((kput m k v).map fun p => Sum.inr p.1, (kput m k v).map fun p => f p.2) := by
  unfold dputD kput
  have e : ((m.map fun p => (Sum.inr p.1 : Key)).any fun c => decide (c = .inr k)) = m.any fun p => decide (p.1 = k) := by
    rw [List.any_map]
    congr 1
    funext p
    show decide ((Sum.inr p.1 : Key) = .inr k) = decide (p.1 = k)
    exact decide_eq_decide.mpr ⟨fun z => by cases z; rfl, fun z => by rw [z]⟩
  rw [e]
  split
  · rw [List.map_map, List.map_map]
    congr 1
    · refine List.map_congr_left fun p _ => ?_
      show (Sum.inr p.1 : Key) = Sum.inr (if p.1 = k then (p.1, v) else p).1
      split <;> rfl
    · have z : ∀ m : List (Str × α), ((m.map fun p => (Sum.inr p.1 : Key)).zip (m.map fun p => f p.2)) = m.map fun p => ((Sum.inr p.1 : Key), f p.2) := fun m => by
        induction m with
        | nil => rfl
        | cons p m ih => rw [List.map_cons, List.map_cons, List.zip_cons_cons, ih]; rfl
      rw [z, List.map_map]
      refine List.map_congr_left fun p _ => ?_
      show (if (Sum.inr p.1 : Key) = .inr k then f v else f p.2) = f (if p.1 = k then (p.1, v) else p).2
      by_cases h : p.1 = k
      · rw [if_pos (by rw [h]), if_pos h]
      · rw [if_neg (fun z => h (by cases z; rfl)), if_neg h]
  · rw [List.map_append, List.map_append]; rfl
theorem dcP_plain {tg : Tg} {kx : SE} {p : α → Bool} {kf : α → Str} {vf : α → β} : ∀ (xs : List α) (m : List (Str × β)), (∀ x ∈ xs, ∃ Δ1, tgS tg (f x) Δ = some Δ1 ∧ T Δ1 = .ret (p x) ∧ (p x = true → kx Δ1 = .ret (.str (kf x)) ∧ s Δ1 = .ret (g (vf x)))) → dcP tg T kx s Δ (m.map fun p => .inr p.1) (m.map fun p => g p.2) (xs.map f) = .ret (eM g ((xs.filter p).foldl (fun m x => kput m (kf x) (vf x)) m))
  | [], m, _ => rfl
  | x :: xs, m, h => by
    obtain ⟨Δ1, h1, h2, h3⟩ := h x (List.mem_cons_self ..)
    have hx : ∀ y ∈ xs, _ := fun y hy => h y (List.mem_cons_of_mem _ hy)
    show ((ofO (tgS tg (f x) Δ)).bind fun Δ1 => (T Δ1).bind fun c => if c = true then (kx Δ1).bind fun r => (ofO (keyOf r)).bind fun q => (s Δ1).bind fun v => dcP tg T kx s Δ (dputD (m.map fun p => .inr p.1) (m.map fun p => g p.2) q v).1 (dputD (m.map fun p => .inr p.1) (m.map fun p => g p.2) q v).2 (xs.map f) else dcP tg T kx s Δ (m.map fun p => .inr p.1) (m.map fun p => g p.2) (xs.map f)) = _
    rw [h1, ofO_some, bind_ret, h2, bind_ret]
    cases hp : p x with
    | true =>
      rw [ite_t, (h3 hp).1, bind_ret, List.filter_cons_of_pos hp]
      show ((s Δ1).bind _) = _
      rw [(h3 hp).2, bind_ret, dput_map]
      exact dcP_plain xs (kput m (kf x) (vf x)) hx
    | false =>
      rw [ite_f, List.filter_cons_of_neg (by rw [hp]; exact Bool.false_ne_true)]
      exact dcP_plain xs m hx
theorem q_dc {tg : Tg} {vs : List Nat} {kx : SE} {p : α → Bool} {kf : α → Str} {vf : α → β} (hi : A Δ = .ret (xs.map f)) (hl : xs.length ≤ lim) (h : ∀ x ∈ xs, ∃ Δ1, tgS tg (f x) (wipeS Δ vs) = some Δ1 ∧ T Δ1 = .ret (p x) ∧ (p x = true → kx Δ1 = .ret (.str (kf x)) ∧ s Δ1 = .ret (g (vf x)))) : cDc tg vs A T kx s Δ = .ret (eM g ((xs.filter p).foldl (fun m x => kput m (kf x) (vf x)) [])) := by
  show (A Δ).bind _ = _
  rw [hi, bind_ret, if_pos (by rw [List.length_map]; exact hl)]
  exact dcP_plain xs [] h
/-! statements -/
theorem z_seq {S1 S2 : ST} {Δ1 : List Sl} {o : Pg Out} (h1 : S1 Δ = .ret (.nx Δ1)) (h2 : S2 Δ1 = o) : DL.tSeq S1 S2 Δ = o := by
  show (S1 Δ).bind _ = _
  rw [h1]; exact h2
theorem z_seqr {S1 S2 : ST} (h1 : S1 Δ = .ret (.rt d)) : DL.tSeq S1 S2 Δ = .ret (.rt d) := by
  show (S1 Δ).bind _ = _
  rw [h1]; rfl
theorem z_nil : DL.tNil Δ = .ret (.nx Δ) := rfl
theorem z_ret (hs : s Δ = .ret d) : DL.tRet s Δ = .ret (.rt d) := by
  show (s Δ).bind _ = _
  rw [hs]; rfl
theorem z_if {S1 S2 : ST} {b : Bool} {o1 o2 : Pg Out} (ht : T Δ = .ret b) (h1 : b = true → S1 Δ = o1) (h2 : b = false → S2 Δ = o2) : DL.tIf T S1 S2 Δ = if b = true then o1 else o2 := by
  show (T Δ).bind _ = _
  rw [ht]
  cases b with
  | true => exact h1 rfl
  | false => exact h2 rfl
/-- an early return -/
theorem z_ifre {S1 S : ST} {b : Bool} {x y : α} (ht : T Δ = .ret b) (h1 : b = true → S1 Δ = .ret (.rt (f x))) (h2 : b = false → S Δ = .ret (.rt (f y))) : DL.tSeq (DL.tIf T S1 DL.tNil) S Δ = .ret (.rt (f (if b = true then x else y))) := by
  show (DL.tIf T S1 DL.tNil Δ).bind _ = _
  rw [z_if ht h1 (fun _ => z_nil)]
  cases b with
  | true => rfl
  | false => exact h2 rfl
end
end DL
end
section
set_option Elab.async false
set_option linter.all false
set_option maxRecDepth 100000
/-! k75: the states -/
namespace Q75
open PySem L2 DL
abbrev Sta := List (Str × Option Int) × List Str
abbrev eSta : Sta → D := e2 (eM (eO eI)) (eL eS)
def lv : List (Option Int) := [some 0, some 1, some 2, some 3, some 4, some 5, none]
def abc : List Str := ["a", "b", "c"]
def prt : List (List Str) := [["a"], ["b"], ["a", "b"], ["c"], ["a", "c"], ["b", "c"], ["a", "b", "c"]]
def someL (h : Option Int) : List (Option Int) := lv.filter fun o => match o, h with
  | none, _ => true
  | some 0, _ => true
  | some i, some j => decide (max 1 j ≤ i)
  | _, _ => false
def lotsL (k : List Str) (h : Option Int) : List (List (Option Int)) := abc.foldl (fun rows tag => rows.flatMap fun r => (if k.contains tag = true then [h] else someL h).map fun o => r ++ [o]) [[]]
def STA : List Sta := prt.flatMap fun k => lv.flatMap fun h => (lotsL k h).map fun r => (abc.zip r, k)
def ckO : D → Option Int → Bool
  | .non, none => true
  | .int i, some j => decide (i = j)
  | _, _ => false
theorem ckO_is {d : D} {o : Option Int} (h : ckO d o = true) : d = eO eI o := by
  unfold ckO at h
  split at h
  · rfl
  · rw [of_decide_eq_true h]; rfl
  · cases h
def ckAll {α : Type} (c : D → α → Bool) : List D → List α → Bool
  | [], [] => true
  | d :: ds, x :: xs => c d x && ckAll c ds xs
  | _, _ => false
theorem ckAll_is {α : Type} {c : D → α → Bool} {f : α → D} (hc : ∀ d x, c d x = true → d = f x) : ∀ {ds : List D} {xs : List α}, ckAll c ds xs = true → ds = xs.map f
  | [], [], _ => rfl
  | d :: ds, x :: xs, h => by
    unfold ckAll at h
    rw [Bool.and_eq_true] at h
    rw [hc d x h.1, ckAll_is hc h.2]; rfl
  | [], _ :: _, h => by cases h
  | _ :: _, [], h => by cases h
def ckS : D → Str → Bool
  | .str x, y => decide (x = y)
  | _, _ => false
theorem ckS_is {d : D} {y : Str} (h : ckS d y = true) : d = eS y := by
  unfold ckS at h
  split at h
  · rw [of_decide_eq_true h]
  · cases h
def ckK : List Key → List (Str × Option Int) → Bool
  | [], [] => true
  | .inr x :: ks, y :: ys => decide (x = y.1) && ckK ks ys
  | _, _ => false
theorem ckK_is : ∀ {ks : List Key} {m : List (Str × Option Int)}, ckK ks m = true → ks = m.map fun p => .inr p.1
  | [], [], _ => rfl
  | .inr x :: ks, y :: ys, h => by
    unfold ckK at h
    rw [Bool.and_eq_true] at h
    rw [of_decide_eq_true h.1, ckK_is h.2]; rfl
  | [], _ :: _, h => by cases h
  | .inl _ :: _, [], h => by cases h
  | .inr _ :: _, [], h => by cases h
  | .inl _ :: _, _ :: _, h => by cases h
def ckSta : D → Sta → Bool
  | .tup [.dct ks vs, .lst xs], (m, k) => ckK ks m && ckAll (fun d (p : Str × Option Int) => ckO d p.2) vs m && ckAll ckS xs k
  | _, _ => false
theorem ckSta_is {d : D} {s : Sta} (h : ckSta d s = true) : d = eSta s := by
  unfold ckSta at h
  split at h
  · rename_i ks vs xs m k
    rw [Bool.and_eq_true, Bool.and_eq_true] at h
    rw [ckK_is h.1.1, ckAll_is (f := fun p : Str × Option Int => eO eI p.2) (fun d x q => ckO_is q) h.1.2, ckAll_is (f := eS) (fun d x q => ckS_is q) h.2]
    rfl
  · cases h
def ck75 : D → Bool
  | .lst ds => ckAll ckSta ds STA
  | _ => false
theorem ck75_is {d : D} (h : ck75 d = true) : d = eL eSta STA := by
  unfold ck75 at h
  split at h
  · rw [ckAll_is (fun d x q => ckSta_is q) h]; rfl
  · cases h
theorem rn_opt {ρ : Nat → Addr} (o : Option Int) : rn ρ (eO eI o) = eO eI o := by
  cases o with
  | none => exact rn_non
  | some i => exact rn_int i
theorem rn_mapL {α : Type} {ρ : Nat → Addr} {f : α → D} (h : ∀ x, rn ρ (f x) = f x) (xs : List α) : rnL ρ (xs.map f) = xs.map f := by
  rw [rnL_map, List.map_map]
  exact List.map_congr_left fun x _ => h x
theorem rn_sta {ρ : Nat → Addr} (s : Sta) : rn ρ (eSta s) = eSta s := by
  show rn ρ (.tup [.dct _ _, .lst _]) = _
  rw [rn_tup, rnL_cons, rnL_cons, rnL_nil, rn_dct, rn_lst, rn_mapL (fun x => rn_opt _), rn_mapL (fun x => rn_str x)]
  rfl
theorem ck75_rn : ∀ d, ck75 d = true → ∀ ρ, rn ρ d = d := fun d h ρ => by
  rw [ck75_is h]
  show rn ρ (.lst _) = _
  rw [rn_lst, rn_mapL rn_sta]
  rfl
end Q75
end
section
set_option Elab.async false
set_option linter.all false
set_option maxRecDepth 100000
namespace Q75
open PySem L2 DL
def B_tupled (R : List D → Pg D) : ST := (tRet (cIf (tT (cIsiT (cVar 0) (aC (cC (.ty "list")) (aC (cC (.ty "tuple")) aN)))) (c1 tupO (cL (aLc (.nm 1) [1] (aIt (cVar 0)) tYes (cCall R (aC (cVar 1) aN))))) (cVar 0)))
def F_tupled : Nat → List D → Pg D
  | 0 => fun _ => .fail
  | n + 1 => runF [] 1 2 (B_tupled (F_tupled n))
def B_often_above : ST := (tRet (cDc (.nm 1) [1] (aIt (c2 sl01 (cVw 0) (c1 negO (cC (.int 1))))) tYes (cVar 1) (cCnt (cVar 0) (cVar 1))))
def F_often_above : List D → Pg D := runF [] 1 2 B_often_above
def B_more_above : ST := (tRet (cL (aLc (.nm 3) [3] (aKeys (cVar 1)) (tAnd (tB (c2 (eqO true) (cVar 3) (cVar 2))) (tB (c2 (coO2 .Gt) (c2 dixO (cVar 1) (cVar 3)) (cGet (cVar 0) (cVar 3) (cC (.int 0)))))) (cVar 3))))
def F_more_above : List D → Pg D := runF [] 3 4 B_more_above
def B_path_tells : ST := (tSeq (tPar 2 3 (oV (cCall (F_tupled 5) (aC (cVar 0) aN))) (oV (cCall (F_tupled 5) (aC (cVar 1) aN)))) (tSeq (tAsg (.tp [(.nm 4), (.nm 5), (.nm 6)]) (xE (cTup (aC (cCall F_often_above (aC (cVar 2) aN)) (aC (cCall F_often_above (aC (cVar 3) aN)) (aC (c2 ixO (cVw 2) (c1 negO (cC (.int 1)))) aN)))))) (tSeq (tIf (tOr (tB (c2 (eqO true) (c2 ixO (cVw 3) (c1 negO (cC (.int 1)))) (cVar 6))) (tT (c1 anyO (cL (aLc (.nm 8) [8] (aKeys (cVar 5)) (tB (c2 (eqO true) (cVar 8) (cVar 6))) (c2 (dinO true) (cVar 8) (cVar 4))))))) (tRet (cC (.bl false))) tNil) (tSeq (tSet 7 (oV (c1 sumO (cL (aLc (.nm 8) [8] (aIt (cCall F_more_above (aC (cVar 4) (aC (cVar 5) (aC (cVar 6) aN))))) tYes (c2 subO (c2 dixO (cVar 5) (cVar 8)) (cGet (cVar 4) (cVar 8) (cC (.int 0))))))))) (tRet (c2 (coO2 .LtE) (c2 addO (cGet (cVar 5) (cVar 6) (cC (.int 0))) (cVar 7)) (cGet (cVar 4) (cVar 6) (cC (.int 0)))))))))
def F_path_tells : List D → Pg D := runF [] 2 9 B_path_tells
def B__law_cells : ST := (tSeq (tSet 2 (oOr (aList (c2 sl01 (cVw 0) (cVar 1))) (aL (aC (cC (.int 0)) aN)))) (tSeq (tFor (.tp [(.nm 3), (.nm 4)]) (aEnumA (cSl (cVw 0) (cVar 1) (cC (.int 63)))) (tSeq (tSet 5 (oV (c2 modO (c1 int2O (cVar 3)) (cVar 1)))) (tPut 2 (c2 addO (c2 ixO (cVw 2) (cVar 5)) (c2 mulO (cVar 4) (c2 addO (cVar 3) (cC (.int 2))))) (cVar 5)))) (tRetO 2)))
def F__law_cells : List D → Pg D := runF [] 2 6 B__law_cells
def B__law_of : ST := (tRet (c2 ixO (cVw 1) (cCall takeP (aC (cVar 0) (aC (c1 lenO' (cVw 1)) aN)))))
def F__law_of : List D → Pg D := runF [false, true] 2 2 B__law_of
def B__law_same (R : List D → Pg D) : ST := (tSeq (tIf (tT (cIsiT (cVar 1) (aC (cC (.ty "list")) (aC (cC (.ty "tuple")) aN)))) (tSeq (tIf (tOr (tB (c2 (eqO true) (c2 isiO (cVar 0) (cC (.ty "list"))) (c2 isiO (cVar 1) (cC (.ty "list"))))) (tB (c2 (eqO true) (c2 isiO (cVar 0) (cC (.ty "tuple"))) (c2 isiO (cVar 1) (cC (.ty "tuple")))))) (tRet (cC (.bl false))) tNil) (tRet (eAnd (c2 (eqO false) (c1 lenO' (cVw 0)) (c1 lenO' (cVw 1))) (c1 allO (cL (aLc (.tp [(.nm 2), (.nm 3)]) [2, 3] (aZip (cVar 0) (cVar 1)) tYes (cCall R (aC (cVar 2) (aC (cVar 3) aN))))))))) tNil) (tSeq (tIf (tOr (tB (c1 (nonO false) (cVar 1))) (tT (cIsiT (cVar 1) (aC (cC (.ty "bool")) (aC (cC (.ty "str")) aN))))) (tRet (eAnd (c2 (eqO false) (cVar 0) (cVar 1)) (eAnd (c2 (eqO false) (c2 isiO (cVar 0) (cC (.ty "bool"))) (c2 isiO (cVar 1) (cC (.ty "bool")))) (c2 (eqO false) (c1 (nonO false) (cVar 0)) (c1 (nonO false) (cVar 1)))))) tNil) (tRet (eAnd (c2 isiO (cVar 0) (cC (.ty "int"))) (eAnd (cNot (c2 isiO (cVar 0) (cC (.ty "bool")))) (c2 (eqO false) (cVar 0) (cVar 1)))))))
def F__law_same : Nat → List D → Pg D
  | 0 => fun _ => .fail
  | n + 1 => runF [] 2 4 (B__law_same (F__law_same n))
def B__law_trail : ST := (tRet (c1 tupO (cL (aLc (.nm 3) [3] (aRg1 (c2 addO (cC (.int 1)) (cCall takeP (aC (cVar 0) (aC (cVar 2) aN))))) tYes (cCall F__law_of (aC (cVar 0) (aC (cVw 1) aN)))))))
def F__law_trail : List D → Pg D := runF [] 3 4 B__law_trail
def B__law_ends : ST := (tSeq (tAsg (.tp [(.nm 2), (.nm 3)]) (xE (cVar 0))) (tSeq (tIf (tB (c2 (inO true) (c2 ixO (cVw 1) (c1 negO (cC (.int 1)))) (cVw 3))) (tRet (cC (.bl false))) tNil) (tSeq (tSet 4 (oV (cL (aSort2 (cL (aLc (.nm 5) [5] (aIt (c2 sl01 (cVw 1) (c1 negO (cC (.int 1))))) (tB (c1 (nonO true) (c2 dixO (cVar 2) (cVar 5)))) (c2 dixO (cVar 2) (cVar 5)))))))) (tRet (c1 allO (cL (aLc (.tp [(.nm 6), (.nm 5)]) [6, 5] (aEnumA (cVar 4)) tYes (c2 (coO2 .Gt) (cVar 5) (cVar 6)))))))))
def F__law_ends : List D → Pg D := runF [] 2 7 B__law_ends
def B__law_parts : ST := (tSeq (tSet 1 (oV (cL (aL (aC (cL (aL aN)) aN))))) (tSeq (tFor (.nm 2) (aIt (cVar 0)) (tSet 1 (oV (c2 addO (cVar 1) (cL (aLc (.nm 3) [3] (aIt (cVar 1)) tYes (c2 addO (cVar 3) (cL (aL (aC (cVar 2) aN)))))))))) (tRet (cVar 1))))
def F__law_parts : List D → Pg D := runF [] 1 4 B__law_parts
def B__law_lots : ST := (tSeq (tSet 4 (oV (cIf (tB (c1 (nonO false) (cVar 2))) (c2 powO (cC (.int 10)) (cC (.int 9))) (c2 maxO (cC (.int 1)) (cVar 2))))) (tSeq (tSet 5 (oV (cL (aLc (.nm 9) [9] (aIt (cVar 3)) (tOr (tB (c2 (eqO false) (cVar 9) (cC (.int 0)))) (tOr (tB (c1 (nonO false) (cVar 9))) (tB (c2 (coO2 .GtE) (cVar 9) (cVar 4))))) (cVar 9))))) (tSeq (tSet 6 (oV (cL (aL (aC (cTup aN) aN))))) (tSeq (tFor (.nm 7) (aIt (cVar 0)) (tSeq (tSet 8 (oV (cL (aL aN)))) (tSeq (tFor (.nm 9) (aIt (cVar 6)) (tSet 8 (oV (c2 addO (cVar 8) (cL (aLc (.nm 10) [10] (aIt (cIf (tB (c2 (inO false) (cVar 7) (cVw 1))) (cL (aL (aC (cVar 2) aN))) (cVar 5))) tYes (c2 addO (cVar 9) (cTup (aC (cVar 10) aN))))))))) (tSet 6 (oV (cVar 8)))))) (tRet (cVar 6))))))
def F__law_lots : List D → Pg D := runF [] 4 11 B__law_lots
def B__law_states : ST := (tSeq (tPar 2 3 (oV (cL (aL aN))) (oV (c2 addO (cL (aRgL (c2 addO (cVar 1) (cC (.int 1))))) (cL (aL (aC (cC .non) aN)))))) (tSeq (tFor (.nm 4) (aIt (c2 sl10 (cCall F__law_parts (aC (cVar 0) aN)) (cC (.int 1)))) (tFor (.nm 5) (aIt (cVar 3)) (tSeq (tSet 6 (oV (cCall F__law_lots (aC (cVar 0) (aC (cVar 4) (aC (cVar 5) (aC (cVar 3) aN))))))) (tSet 2 (oV (c2 addO (cVar 2) (cL (aLc (.nm 7) [7] (aIt (cVar 6)) tYes (cTup (aC (c2 dzO (cVar 0) (cVar 7)) (aC (cVar 4) aN))))))))))) (tRet (cVar 2))))
def F__law_states : List D → Pg D := runF [] 2 8 B__law_states
def B__law_due : ST := (tRet (cNot (c1 anyO (cL (aLc (.nm 3) [3] (aIt (cVar 0)) tYes (eAnd (cCall F__law_ends (aC (cVar 3) (aC (cVar 1) aN))) (cNot (cCall F__law_ends (aC (cVar 3) (aC (cVar 2) aN))))))))))
def F__law_due : List D → Pg D := runF [] 3 4 B__law_due
def B__law_by_hand_right : ST := (tSeq (tSet 1 (oV (cL (aL (aC (cTup (aC (cC (.str "aba")) (aC (cC (.str "bba")) aN))) (aC (cTup (aC (cC (.str "bba")) (aC (cC (.str "aba")) aN))) (aC (cTup (aC (cC (.str "ba")) (aC (cC (.str "bba")) aN))) (aC (cTup (aC (cC (.str "bca")) (aC (cC (.str "cba")) aN))) (aC (cTup (aC (cC (.str "abca")) (aC (cC (.str "bbca")) aN))) (aC (cTup (aC (cC (.str "ab")) (aC (cC (.str "ba")) aN))) (aC (cTup (aC (cC (.str "bcab")) (aC (cC (.str "ccab")) aN))) aN))))))))))) (tSeq (tSet 1 (oV (c2 addO (cVar 1) (cL (aL (aC (cTup (aC (cC (.str "aab")) (aC (cC (.str "cab")) aN))) (aC (cTup (aC (cC (.str "cab")) (aC (cC (.str "aab")) aN))) (aC (cTup (aC (cC (.str "cca")) (aC (cC (.str "ca")) aN))) (aC (cTup (aC (cC (.str "acca")) (aC (cC (.str "aa")) aN))) (aC (cTup (aC (cC (.str "aaaa")) (aC (cC (.str "aaa")) aN))) (aC (cTup (aC (cC (.str "c")) (aC (cC (.str "cc")) aN))) (aC (cTup (aC (cC (.str "cc")) (aC (cC (.str "c")) aN))) (aC (cTup (aC (cC (.str "ab")) (aC (cC (.str "a")) aN))) aN))))))))))))) (tSeq (tSet 2 (oV (cL (aL (aC (cC (.bl true)) (aC (cC (.bl false)) (aC (cC (.bl false)) (aC (cC (.bl true)) (aC (cC (.bl true)) (aC (cC (.bl false)) (aC (cC (.bl true)) (aC (cC (.bl false)) (aC (cC (.bl false)) (aC (cC (.bl true)) (aC (cC (.bl true)) (aC (cC (.bl true)) (aC (cC (.bl false)) (aC (cC (.bl true)) (aC (cC (.bl false)) aN))))))))))))))))))) (tSeq (tIf (tNot (tT (cCall (F__law_same 5) (aC (cL (aLc (.tp [(.nm 3), (.nm 4)]) [3, 4] (aIt (cVar 1)) tYes (cCall F_path_tells (aC (c1 tupO (cVw 3)) (aC (c1 tupO (cVw 4)) aN))))) (aC (cVar 2) aN))))) (tRet (cC (.bl false))) tNil) (tRet (c2 (eqO false) (cL (aLc (.tp [(.nm 3), (.nm 4)]) [3, 4] (aIt (cVar 1)) tYes (cCall F__law_due (aC (cVar 0) (aC (cVar 3) (aC (cVar 4) aN)))))) (cVar 2)))))))
def F__law_by_hand_right : List D → Pg D := runF [] 1 5 B__law_by_hand_right
def B__law_right : ST := (tSeq (tFor (.nm 2) (aRg1 (cC (.int 15))) (tSeq (tPar 3 4 (oV (cCall F__law_trail (aC (cVar 0) (aC (cL (aL (aC (cC (.str "a")) (aC (cC (.str "b")) (aC (cC (.str "c")) aN))))) (aC (cC (.int 5)) aN))))) (oV (cCall F__law_trail (aC (cVar 0) (aC (cL (aL (aC (cC (.str "a")) (aC (cC (.str "b")) (aC (cC (.str "c")) aN))))) (aC (cC (.int 5)) aN)))))) (tSeq (tIf (tB (c2 (coO2 .Gt) (cCall takeP (aC (cVar 0) (aC (cC (.int 3)) aN))) (cC (.int 0)))) (tSet 4 (oV (c2 addO (c2 sl01 (cVw 4) (c1 negO (cC (.int 1)))) (c2 sl10 (cVw 3) (c1 negO (cC (.int 1))))))) tNil) (tIf (tNot (tT (cCall (F__law_same 5) (aC (cCall F_path_tells (aC (cVar 3) (aC (cVar 4) aN))) (aC (cCall F__law_due (aC (cVar 1) (aC (cVar 3) (aC (cVar 4) aN)))) aN))))) (tRet (cC (.bl false))) tNil)))) (tRet (cC (.bl true))))
def F__law_right : List D → Pg D := runF [] 2 5 B__law_right
def B_law : ST := (tSeq (tSet 1 (oV (cCall F__law_states (aC (cL (aL (aC (cC (.str "a")) (aC (cC (.str "b")) (aC (cC (.str "c")) aN))))) (aC (cC (.int 5)) aN))))) (tSeq (tIf (tNot (tT (cCall F__law_by_hand_right (aC (cVar 1) aN)))) (tRet (cC (.bl false))) tNil) (tSeq (tSet 2 (oV (cCall F__law_cells (aC (cVar 0) (aC (cC (.int 2)) aN))))) (tRet (c1 allO (cL (aLc (.nm 3) [3] (aRg1 (c1 lenO' (cVw 2))) tYes (cBox2 ck75 (cVar 2) (cVar 3) (cVar 1)))))))))
def F_law : List D → Pg D := runF [] 1 4 B_law
end Q75
end
section
set_option Elab.async false
set_option linter.all false
set_option maxRecDepth 100000
namespace Q75
open PySem L2 DL
abbrev gam (K : PySem.W.Frag) : Nat → Addr
  | _ => 0
structure Top (K : PySem.W.Frag) (mg : Str → Option Value) : Prop where
  b_abs : mg "abs" = none
  b_all : mg "all" = none
  b_any : mg "any" = none
  b_bool : mg "bool" = none
  b_dict : mg "dict" = none
  b_enumerate : mg "enumerate" = none
  b_int : mg "int" = none
  b_isinstance : mg "isinstance" = none
  b_len : mg "len" = none
  b_list : mg "list" = none
  b_max : mg "max" = none
  b_range : mg "range" = none
  b_sorted : mg "sorted" = none
  b_str : mg "str" = none
  b_sum : mg "sum" = none
  b_tuple : mg "tuple" = none
  b_zip : mg "zip" = none
section
variable {P : Program} {w : World} {K : PySem.W.Frag} {mg : Str → Option Value} {base : Heap} {f : Addr} {fd : FuncData} {dvs : List V}
set_option maxHeartbeats 4000000
theorem sc_tupled : FnScope ["thing", "part"] ["thing"] (defScope s_tupled) := ⟨rfl, rfl, rfl, by decide +kernel, rfl, by decide +kernel, by decide +kernel⟩
theorem ok_tupled (T : Top K mg) (Fn : FnD K "tupled" "tupled" s_tupled dvs f fd) (gR : mg "tupled" = some (.ref f)) (bR : Binds K fd ["thing"] []) : ∀ d : Nat, FnOk P w K mg base CX0 (1 + d) f fd ["thing"] (spOf K (spW (gam K) [] (F_tupled d)))
  | 0 => (fail_ok (n := 0) Fn sc_tupled)
  | d + 1 => by
    have CR : Cal P w K mg base "tupled" (1 + d) (spW (gam K) [] (F_tupled d)) := ⟨f, fd, _, ok_tupled T  Fn gR bR d, gR, Fn.kp, bR⟩
    refine fn_ok (n := 1 + d) (t := B_tupled (F_tupled d)) (by rfl) Fn sc_tupled fun cdv A outer s H E hr => ?_
    have sc := sc_tupled
    exact (b_one (r_ret (i_if (t_truth (fun _ => rfl) (IE.iv (i_isiT rfl T.b_isinstance (i_v (i := 0)) (a_cons (i_ty (T := "list") rfl T.b_list (by decide +kernel) (by decide) rfl) (a_cons (i_ty (T := "tuple") rfl T.b_tuple (by decide +kernel) (by decide) rfl) a_nil))))) (i_tuple rfl rfl T.b_tuple (IE.iv (IL.frz (l_lc (own := [("part", 1)]) rfl sc.nd (blkOk_by rfl) (by decide) (n_any (i_v (i := 0))) (by decide) (fun s H C cl fp => (g_n (i := 1) sc.nd)) (fun s H C cl fp => ts_nil) (fun s H C cl fp => (i_call CR (hr.mono (by omega)) rfl (w_nil (a_cons (i_v (i := 1)) a_nil)))))))) (i_v (i := 0)))))
theorem sc_often_above : FnScope ["path", "name"] ["path"] (defScope s_often_above) := ⟨rfl, rfl, rfl, by decide +kernel, rfl, by decide +kernel, by decide +kernel⟩
theorem ok_often_above (T : Top K mg) (Fn : FnD K "often_above" "often_above" s_often_above dvs f fd) : FnOk P w K mg base CX0 1 f fd ["path"] (spOf K (spW (gam K) [] F_often_above)) := by
  refine fn_ok (n := 0) (t := B_often_above) (by rfl) Fn sc_often_above fun cdv A outer s H E hr => ?_
  have sc := sc_often_above
  exact (b_one (r_ret (i_dc (own := [("name", 1)]) rfl sc.nd (blkOk_by rfl) (by decide) (n_any (i_sl01 (iv_var (i := 0) rfl (.inr (.inl rfl)) rfl rfl) (i_neg i_int))) (by decide) (fun s H C cl fp => (g_n (i := 1) sc.nd)) (fun s H C cl fp => ts_nil) (fun s H C cl fp => (i_v (i := 1))) (fun s H C cl fp => (i_cutCnt (i_var (i := 0) rfl (by first | exact .inl rfl | exact .inr (.inl rfl) | exact .inr (.inr rfl)) rfl rfl) (i_v (i := 1)))))))
theorem sc_more_above : FnScope ["mine", "its", "last", "name"] ["mine", "its", "last"] (defScope s_more_above) := ⟨rfl, rfl, rfl, by decide +kernel, rfl, by decide +kernel, by decide +kernel⟩
theorem ok_more_above (T : Top K mg) (Fn : FnD K "more_above" "more_above" s_more_above dvs f fd) : FnOk P w K mg base CX0 1 f fd ["mine", "its", "last"] (spOf K (spW (gam K) [] F_more_above)) := by
  refine fn_ok (n := 0) (t := B_more_above) (by rfl) Fn sc_more_above fun cdv A outer s H E hr => ?_
  have sc := sc_more_above
  exact (b_one (r_ret (IL.frz (l_lc (own := [("name", 3)]) rfl sc.nd (blkOk_by rfl) (by decide) (n_keys (i_var (i := 1) rfl (.inr (.inl rfl)) rfl rfl)) (by decide) (fun s H C cl fp => (g_n (i := 3) sc.nd)) (fun s H C cl fp => (ts_one (t_w (w_and (t_cm (k_ne hr.units (i_v (i := 3)) (i_var (i := 2) rfl (by first | exact .inl rfl | exact .inr (.inl rfl) | exact .inr (.inr rfl)) rfl rfl))) (w_and1 (t_cm (k_co2 (i_dix hr.units (fun _ _ => rfl) (i_var (i := 1) rfl (by first | exact .inl rfl | exact .inr (.inl rfl) | exact .inr (.inr rfl)) rfl rfl) (i_v (i := 3))) (i_get2 hr.units (i_var (i := 0) rfl (by first | exact .inl rfl | exact .inr (.inl rfl) | exact .inr (.inr rfl)) rfl rfl) (i_v (i := 3)) i_int)))))))) (fun s H C cl fp => (i_v (i := 3)))))))
theorem sc_path_tells : FnScope ["path", "other", "own", "far", "mine", "its", "last", "much", "name"] ["path", "other"] (defScope s_path_tells) := ⟨rfl, rfl, rfl, by decide +kernel, rfl, by decide +kernel, by decide +kernel⟩
theorem ok_path_tells (T : Top K mg) (C_more_above : Cal P w K mg base "more_above" 1 (spW (gam K) [] F_more_above)) (C_often_above : Cal P w K mg base "often_above" 1 (spW (gam K) [] F_often_above)) (C_tupled : Cal P w K mg base "tupled" 6 (spW (gam K) [] (F_tupled 5))) (Fn : FnD K "path_tells" "path_tells" s_path_tells dvs f fd) : FnOk P w K mg base CX0 7 f fd ["path", "other"] (spOf K (spW (gam K) [] F_path_tells)) := by
  refine fn_ok (n := 6) (t := B_path_tells) (by rfl) Fn sc_path_tells fun cdv A outer s H E hr => ?_
  have sc := sc_path_tells
  exact (b_cons (r_par (i := 2) (j := 3) rfl sc.nd rfl rfl (by decide) rfl rfl rfl (IE.io (i_call C_tupled (hr.mono (by omega)) rfl (w_nil (a_cons (i_v (i := 0)) a_nil)))) (IE.io (i_call C_tupled (hr.mono (by omega)) rfl (w_nil (a_cons (i_v (i := 1)) a_nil))))) (b_cons (r_asg (IE.ix (i_tup (a_cons (i_call C_often_above (hr.mono (by omega)) rfl (w_nil (a_cons (i_v (i := 2)) a_nil))) (a_cons (i_call C_often_above (hr.mono (by omega)) rfl (w_nil (a_cons (i_v (i := 3)) a_nil))) (a_cons (i_ix (fun _ _ => rfl) (iv_v (i := 2)) (i_neg i_int)) a_nil))))) (g_tup rfl (gs_cons (g_n (i := 4) sc.nd) (gs_cons (g_n (i := 5) sc.nd) (gs_cons (g_n (i := 6) sc.nd) gs_nil))) rfl)) (b_cons (r_if (t_w (w_or (t_cm (k_ne hr.units (i_ix (fun _ _ => rfl) (iv_v (i := 3)) (i_neg i_int)) (i_var (i := 6) rfl (.inr (.inl rfl)) rfl rfl))) (w_or1 (t_truth (fun _ => rfl) (IE.iv (i_any rfl rfl T.b_any (IE.iv (IL.frz (l_lc (own := [("name", 8)]) rfl sc.nd (blkOk_by rfl) (by decide) (n_keys (i_var (i := 5) rfl (.inr (.inl rfl)) rfl rfl)) (by decide) (fun s H C cl fp => (g_n (i := 8) sc.nd)) (fun s H C cl fp => (ts_one (t_cm (k_ne hr.units (i_v (i := 8)) (i_var (i := 6) rfl (by first | exact .inl rfl | exact .inr (.inl rfl) | exact .inr (.inr rfl)) rfl rfl))))) (fun s H C cl fp => (i_cm (k_dnotin hr.units (i_v (i := 8)) (i_var (i := 4) rfl (by first | exact .inl rfl | exact .inr (.inl rfl) | exact .inr (.inr rfl)) rfl rfl))))))))))))) (b_one (r_ret i_bl)) b_nil) (b_cons (r_set (i := 7) sc.nd rfl (.inl rfl) (.inr rfl) (IE.io (i_sum rfl rfl T.b_sum (IE.iv (IL.frz (l_lc (own := [("name", 8)]) rfl sc.nd (blkOk_by rfl) (by decide) (n_any (i_call C_more_above (hr.mono (by omega)) rfl (w_nil (a_cons (i_var (i := 4) rfl (.inr (.inl rfl)) rfl rfl) (a_cons (i_var (i := 5) rfl (.inr (.inl rfl)) rfl rfl) (a_cons (i_var (i := 6) rfl (.inr (.inl rfl)) rfl rfl) a_nil)))))) (by decide) (fun s H C cl fp => (g_n (i := 8) sc.nd)) (fun s H C cl fp => ts_nil) (fun s H C cl fp => (i_sub (i_dix hr.units (fun _ _ => rfl) (i_var (i := 5) rfl (by first | exact .inl rfl | exact .inr (.inl rfl) | exact .inr (.inr rfl)) rfl rfl) (i_v (i := 8))) (i_get2 hr.units (i_var (i := 4) rfl (by first | exact .inl rfl | exact .inr (.inl rfl) | exact .inr (.inr rfl)) rfl rfl) (i_v (i := 8)) i_int))))))))) (b_one (r_ret (i_cm (k_co2 (i_add (i_get2 hr.units (i_var (i := 5) rfl (.inr (.inl rfl)) rfl rfl) (i_var (i := 6) rfl (.inr (.inl rfl)) rfl rfl) i_int) (i_v (i := 7))) (i_get2 hr.units (i_var (i := 4) rfl (.inr (.inl rfl)) rfl rfl) (i_var (i := 6) rfl (.inr (.inl rfl)) rfl rfl) i_int)))))))))
theorem sc__law_cells : FnScope ["_law_script", "_law_top", "_law_cells_here", "_law_k", "_law_cell", "_law_at_so"] ["_law_script", "_law_top"] (defScope s__law_cells) := ⟨rfl, rfl, rfl, by decide +kernel, rfl, by decide +kernel, by decide +kernel⟩
theorem ok__law_cells (T : Top K mg) (Fn : FnD K "_law_cells" "_law_cells" s__law_cells dvs f fd) : FnOk P w K mg base CX0 1 f fd ["_law_script", "_law_top"] (spOf K (spW (gam K) [] F__law_cells)) := by
  refine fn_ok (n := 0) (t := B__law_cells) (by rfl) Fn sc__law_cells fun cdv A outer s H E hr => ?_
  have sc := sc__law_cells
  exact (b_cons (r_set (i := 2) sc.nd rfl (.inl rfl) (.inr rfl) (io_or (l_list rfl rfl T.b_list (IE.iv (i_sl01 (iv_v (i := 0)) (i_v (i := 1))))) (l_lst (a_cons i_int a_nil)))) (b_cons (r_for PassesOwn.never rfl (n_enumA rfl T.b_enumerate (i_sl11 (iv_v (i := 0)) (i_v (i := 1)) i_int)) (g_tup rfl (gs_cons (g_n (i := 3) sc.nd) (gs_cons (g_n (i := 4) sc.nd) gs_nil)) rfl) (b_cons (r_set (i := 5) sc.nd rfl (.inl rfl) (.inr rfl) (IE.io (i_mod (i_intc2 rfl T.b_int (i_v (i := 3))) (i_v (i := 1))))) (b_one (r_put (i := 2) rfl (.inl rfl) rfl rfl (i_add (i_ix (fun _ _ => rfl) (iv_v (i := 2)) (i_v (i := 5))) (i_mul (i_v (i := 4)) (i_add (i_v (i := 3)) i_int))) (i_v (i := 5)))))) (b_one (r_retO (i := 2) rfl (.inl rfl) rfl rfl))))
theorem sc__law_of : FnScope ["_law_urn", "_law_some_so"] ["_law_urn", "_law_some_so"] (defScope s__law_of) := ⟨rfl, rfl, rfl, by decide +kernel, rfl, by decide +kernel, by decide +kernel⟩
theorem ok__law_of (T : Top K mg) (C__law_take : Cal P w K mg base "_law_take" 1 (spW (gam K) [] takeP)) (Fn : FnD K "_law_of" "_law_of" s__law_of dvs f fd) : FnOk P w K mg base CX0 2 f fd ["_law_urn", "_law_some_so"] (spOf K (spW (gam K) [false, true] F__law_of)) := by
  refine fn_ok (n := 1) (t := B__law_of) (by rfl) Fn sc__law_of fun cdv A outer s H E hr => ?_
  have sc := sc__law_of
  exact (b_one (r_ret (i_ix (fun _ _ => rfl) (iv_v (i := 1)) (i_call C__law_take (hr.mono (by omega)) rfl (w_nil (a_cons (i_v (i := 0)) (a_cons (i_len rfl T.b_len (iv_v (i := 1))) a_nil)))))))
theorem sc__law_same : FnScope ["_law_got", "_law_goal", "_law_mine_so", "_law_own"] ["_law_got", "_law_goal"] (defScope s__law_same) := ⟨rfl, rfl, rfl, by decide +kernel, rfl, by decide +kernel, by decide +kernel⟩
theorem ok__law_same (T : Top K mg) (Fn : FnD K "_law_same" "_law_same" s__law_same dvs f fd) (gR : mg "_law_same" = some (.ref f)) (bR : Binds K fd ["_law_got", "_law_goal"] []) : ∀ d : Nat, FnOk P w K mg base CX0 (1 + d) f fd ["_law_got", "_law_goal"] (spOf K (spW (gam K) [] (F__law_same d)))
  | 0 => (fail_ok (n := 0) Fn sc__law_same)
  | d + 1 => by
    have CR : Cal P w K mg base "_law_same" (1 + d) (spW (gam K) [] (F__law_same d)) := ⟨f, fd, _, ok__law_same T  Fn gR bR d, gR, Fn.kp, bR⟩
    refine fn_ok (n := 1 + d) (t := B__law_same (F__law_same d)) (by rfl) Fn sc__law_same fun cdv A outer s H E hr => ?_
    have sc := sc__law_same
    exact (b_cons (r_if (t_truth (fun _ => rfl) (IE.iv (i_isiT rfl T.b_isinstance (i_v (i := 1)) (a_cons (i_ty (T := "list") rfl T.b_list (by decide +kernel) (by decide) rfl) (a_cons (i_ty (T := "tuple") rfl T.b_tuple (by decide +kernel) (by decide) rfl) a_nil))))) (b_cons (r_if (t_w (w_or (t_cm (k_ne hr.units (i_isi rfl T.b_isinstance (i_v (i := 0)) (i_ty (T := "list") rfl T.b_list (by decide +kernel) (by decide) rfl)) (i_isi rfl T.b_isinstance (i_v (i := 1)) (i_ty (T := "list") rfl T.b_list (by decide +kernel) (by decide) rfl)))) (w_or1 (t_cm (k_ne hr.units (i_isi rfl T.b_isinstance (i_v (i := 0)) (i_ty (T := "tuple") rfl T.b_tuple (by decide +kernel) (by decide) rfl)) (i_isi rfl T.b_isinstance (i_v (i := 1)) (i_ty (T := "tuple") rfl T.b_tuple (by decide +kernel) (by decide) rfl))))))) (b_one (r_ret i_bl)) b_nil) (b_one (r_ret (i_and (i_cm (k_eq hr.units (i_len rfl T.b_len (iv_v (i := 0))) (i_len rfl T.b_len (iv_v (i := 1))))) (i_b1 (i_all rfl rfl T.b_all (IE.iv (IL.frz (l_lc (own := [("_law_mine_so", 2), ("_law_own", 3)]) rfl sc.nd (blkOk_by rfl) (by decide) (n_zip rfl T.b_zip (i_v (i := 0)) (i_v (i := 1))) (by decide) (fun s H C cl fp => (g_tup rfl (gs_cons (g_n (i := 2) sc.nd) (gs_cons (g_n (i := 3) sc.nd) gs_nil)) rfl)) (fun s H C cl fp => ts_nil) (fun s H C cl fp => (i_call CR (hr.mono (by omega)) rfl (w_nil (a_cons (i_v (i := 2)) (a_cons (i_v (i := 3)) a_nil)))))))))))))) b_nil) (b_cons (r_if (t_w (w_or (t_cm (k_is (i_v (i := 1)))) (w_or1 (t_truth (fun _ => rfl) (IE.iv (i_isiT rfl T.b_isinstance (i_v (i := 1)) (a_cons (i_ty (T := "bool") rfl T.b_bool (by decide +kernel) (by decide) rfl) (a_cons (i_ty (T := "str") rfl T.b_str (by decide +kernel) (by decide) rfl) a_nil)))))))) (b_one (r_ret (i_and (i_cm (k_eq hr.units (i_v (i := 0)) (i_v (i := 1)))) (i_and (i_cm (k_eq hr.units (i_isi rfl T.b_isinstance (i_v (i := 0)) (i_ty (T := "bool") rfl T.b_bool (by decide +kernel) (by decide) rfl)) (i_isi rfl T.b_isinstance (i_v (i := 1)) (i_ty (T := "bool") rfl T.b_bool (by decide +kernel) (by decide) rfl)))) (i_b1 (i_cm (k_eq hr.units (i_cm (k_is (i_v (i := 0)))) (i_cm (k_is (i_v (i := 1))))))))))) b_nil) (b_one (r_ret (i_and (i_isi rfl T.b_isinstance (i_v (i := 0)) (i_ty (T := "int") rfl T.b_int (by decide +kernel) (by decide) rfl)) (i_and (i_not (i_isi rfl T.b_isinstance (i_v (i := 0)) (i_ty (T := "bool") rfl T.b_bool (by decide +kernel) (by decide) rfl))) (i_b1 (i_cm (k_eq hr.units (i_v (i := 0)) (i_v (i := 1)))))))))))
theorem sc__law_trail : FnScope ["_law_urn", "_law_tags", "_law_most_so", "_law_turn"] ["_law_urn", "_law_tags", "_law_most_so"] (defScope s__law_trail) := ⟨rfl, rfl, rfl, by decide +kernel, rfl, by decide +kernel, by decide +kernel⟩
theorem ok__law_trail (T : Top K mg) (C__law_of : Cal P w K mg base "_law_of" 2 (spW (gam K) [false, true] F__law_of)) (C__law_take : Cal P w K mg base "_law_take" 1 (spW (gam K) [] takeP)) (Fn : FnD K "_law_trail" "_law_trail" s__law_trail dvs f fd) : FnOk P w K mg base CX0 3 f fd ["_law_urn", "_law_tags", "_law_most_so"] (spOf K (spW (gam K) [] F__law_trail)) := by
  refine fn_ok (n := 2) (t := B__law_trail) (by rfl) Fn sc__law_trail fun cdv A outer s H E hr => ?_
  have sc := sc__law_trail
  exact (b_one (r_ret (i_tuple rfl rfl T.b_tuple (IE.iv (IL.frz (l_lc (own := [("_law_turn", 3)]) rfl sc.nd (blkOk_by rfl) (by decide) (n_rg1 rfl T.b_range (i_add i_int (i_call C__law_take (hr.mono (by omega)) rfl (w_nil (a_cons (i_var (i := 0) rfl (.inr (.inl rfl)) rfl rfl) (a_cons (i_v (i := 2)) a_nil)))))) (by decide) (fun s H C cl fp => (g_n (i := 3) sc.nd)) (fun s H C cl fp => ts_nil) (fun s H C cl fp => (i_call C__law_of (hr.mono (by omega)) rfl (w_v (i_var (i := 0) rfl (by first | exact .inl rfl | exact .inr (.inl rfl) | exact .inr (.inr rfl)) rfl rfl) (w_w (iv_var (i := 1) rfl (by first | exact .inl rfl | exact .inr (.inl rfl) | exact .inr (.inr rfl)) rfl rfl) (w_nil a_nil)))))))))))
theorem sc__law_ends : FnScope ["_law_state_so", "_law_row", "_law_rooms_so", "_law_kept_so", "_law_many", "_law_own", "_law_k"] ["_law_state_so", "_law_row"] (defScope s__law_ends) := ⟨rfl, rfl, rfl, by decide +kernel, rfl, by decide +kernel, by decide +kernel⟩
theorem ok__law_ends (T : Top K mg) (Fn : FnD K "_law_ends" "_law_ends" s__law_ends dvs f fd) : FnOk P w K mg base CX0 1 f fd ["_law_state_so", "_law_row"] (spOf K (spW (gam K) [] F__law_ends)) := by
  refine fn_ok (n := 0) (t := B__law_ends) (by rfl) Fn sc__law_ends fun cdv A outer s H E hr => ?_
  have sc := sc__law_ends
  exact (b_cons (r_asg (IE.ix (i_v (i := 0))) (g_tup rfl (gs_cons (g_n (i := 2) sc.nd) (gs_cons (g_n (i := 3) sc.nd) gs_nil)) rfl)) (b_cons (r_if (t_cm (k_notin (i_ix (fun _ _ => rfl) (iv_v (i := 1)) (i_neg i_int)) (iv_v (i := 3)))) (b_one (r_ret i_bl)) b_nil) (b_cons (r_set (i := 4) sc.nd rfl (.inl rfl) (.inr rfl) (IE.io (IL.frz (l_sorted2 rfl T.b_sorted (IE.iv (IL.frz (l_lc (own := [("_law_own", 5)]) rfl sc.nd (blkOk_by rfl) (by decide) (n_any (i_sl01 (iv_v (i := 1)) (i_neg i_int))) (by decide) (fun s H C cl fp => (g_n (i := 5) sc.nd)) (fun s H C cl fp => (ts_one (t_cm (k_isnot (i_dix hr.units (fun _ _ => rfl) (i_var (i := 2) rfl (by first | exact .inl rfl | exact .inr (.inl rfl) | exact .inr (.inr rfl)) rfl rfl) (i_v (i := 5))))))) (fun s H C cl fp => (i_dix hr.units (fun _ _ => rfl) (i_var (i := 2) rfl (by first | exact .inl rfl | exact .inr (.inl rfl) | exact .inr (.inr rfl)) rfl rfl) (i_v (i := 5))))))))))) (b_one (r_ret (i_all rfl rfl T.b_all (IE.iv (IL.frz (l_lc (own := [("_law_k", 6), ("_law_own", 5)]) rfl sc.nd (blkOk_by rfl) (by decide) (n_enumA rfl T.b_enumerate (i_v (i := 4))) (by decide) (fun s H C cl fp => (g_tup rfl (gs_cons (g_n (i := 6) sc.nd) (gs_cons (g_n (i := 5) sc.nd) gs_nil)) rfl)) (fun s H C cl fp => ts_nil) (fun s H C cl fp => (i_cm (k_co2 (i_v (i := 5)) (i_v (i := 6))))))))))))))
theorem sc__law_parts : FnScope ["_law_some", "_law_found", "_law_own", "_law_far"] ["_law_some"] (defScope s__law_parts) := ⟨rfl, rfl, rfl, by decide +kernel, rfl, by decide +kernel, by decide +kernel⟩
theorem ok__law_parts (T : Top K mg) (Fn : FnD K "_law_parts" "_law_parts" s__law_parts dvs f fd) : FnOk P w K mg base CX0 1 f fd ["_law_some"] (spOf K (spW (gam K) [] F__law_parts)) := by
  refine fn_ok (n := 0) (t := B__law_parts) (by rfl) Fn sc__law_parts fun cdv A outer s H E hr => ?_
  have sc := sc__law_parts
  exact (b_cons (r_set (i := 1) sc.nd rfl (.inl rfl) (.inr rfl) (IE.io (IL.frz (l_lst (a_cons (IL.frz (l_lst a_nil)) a_nil))))) (b_cons (r_for PassesOwn.never rfl (n_any (i_v (i := 0))) (g_n (i := 2) sc.nd) (b_one (r_set (i := 1) sc.nd rfl (.inl rfl) (.inr rfl) (IE.io (i_add (i_v (i := 1)) (IL.frz (l_lc (own := [("_law_far", 3)]) rfl sc.nd (blkOk_by rfl) (by decide) (n_any (i_v (i := 1))) (by decide) (fun s H C cl fp => (g_n (i := 3) sc.nd)) (fun s H C cl fp => ts_nil) (fun s H C cl fp => (i_add (i_v (i := 3)) (IL.frz (l_lst (a_cons (i_var (i := 2) rfl (by first | exact .inl rfl | exact .inr (.inl rfl) | exact .inr (.inr rfl)) rfl rfl) a_nil)))))))))))) (b_one (r_ret (i_v (i := 1))))))
theorem sc__law_lots : FnScope ["_law_tags", "_law_kept_so", "_law_height_so", "_law_levels_so", "_law_low_so", "_law_some", "_law_rows", "_law_tag", "_law_wider_so", "_law_own", "_law_much"] ["_law_tags", "_law_kept_so", "_law_height_so", "_law_levels_so"] (defScope s__law_lots) := ⟨rfl, rfl, rfl, by decide +kernel, rfl, by decide +kernel, by decide +kernel⟩
theorem ok__law_lots (T : Top K mg) (Fn : FnD K "_law_lots" "_law_lots" s__law_lots dvs f fd) : FnOk P w K mg base CX0 1 f fd ["_law_tags", "_law_kept_so", "_law_height_so", "_law_levels_so"] (spOf K (spW (gam K) [] F__law_lots)) := by
  refine fn_ok (n := 0) (t := B__law_lots) (by rfl) Fn sc__law_lots fun cdv A outer s H E hr => ?_
  have sc := sc__law_lots
  exact (b_cons (r_set (i := 4) sc.nd rfl (.inr rfl) (.inl rfl) (IE.io (i_if (t_cm (k_is (i_v (i := 2)))) (i_pow i_int i_int) (i_max2 rfl rfl T.b_max i_int (i_v (i := 2)))))) (b_cons (r_setLc (i := 5) (own := [("_law_own", 9)]) rfl sc.nd rfl rfl (sw_true rfl rfl rfl (by decide +kernel)) (blkOk_by rfl) (by decide) (n_any (i_v (i := 3))) (by decide) (fun s H C cl fp => (g_n (i := 9) sc.nd)) (fun s H C cl fp => (ts_one (t_w (w_or (t_cm (k_eq hr.units (i_v (i := 9)) i_int)) (w_or (t_cm (k_is (i_v (i := 9)))) (w_or1 (t_cm (k_co2 (i_v (i := 9)) (i_var (i := 4) rfl (by first | exact .inl rfl | exact .inr (.inl rfl) | exact .inr (.inr rfl)) rfl rfl))))))))) (fun s H C cl fp => (i_v (i := 9)))) (b_cons (r_set (i := 6) sc.nd rfl (.inl rfl) (.inr rfl) (IE.io (IL.frz (l_lst (a_cons (i_tup a_nil) a_nil))))) (b_cons (r_for PassesOwn.never rfl (n_any (i_v (i := 0))) (g_n (i := 7) sc.nd) (b_cons (r_set (i := 8) sc.nd rfl (.inl rfl) (.inr rfl) (IE.io (IL.frz (l_lst a_nil)))) (b_cons (r_for PassesOwn.never rfl (n_any (i_v (i := 6))) (g_n (i := 9) sc.nd) (b_one (r_set (i := 8) sc.nd rfl (.inl rfl) (.inr rfl) (IE.io (i_add (i_v (i := 8)) (IL.frz (l_lc (own := [("_law_much", 10)]) rfl sc.nd (blkOk_by rfl) (by decide) (n_any (i_if (t_cm (k_in (i_v (i := 7)) (iv_v (i := 1)))) (IL.frz (l_lst (a_cons (i_v (i := 2)) a_nil))) (i_v (i := 5)))) (by decide) (fun s H C cl fp => (g_n (i := 10) sc.nd)) (fun s H C cl fp => ts_nil) (fun s H C cl fp => (i_add (i_var (i := 9) rfl (by first | exact .inl rfl | exact .inr (.inl rfl) | exact .inr (.inr rfl)) rfl rfl) (i_tup (a_cons (i_v (i := 10)) a_nil))))))))))) (b_one (r_set (i := 6) sc.nd rfl (.inl rfl) (.inr rfl) (IE.io (i_v (i := 8)))))))) (b_one (r_ret (i_v (i := 6))))))))
theorem sc__law_states : FnScope ["_law_tags", "_law_deep_so", "_law_found", "_law_levels_so", "_law_kept_so", "_law_height_so", "_law_rows", "_law_own"] ["_law_tags", "_law_deep_so"] (defScope s__law_states) := ⟨rfl, rfl, rfl, by decide +kernel, rfl, by decide +kernel, by decide +kernel⟩
theorem ok__law_states (T : Top K mg) (C__law_lots : Cal P w K mg base "_law_lots" 1 (spW (gam K) [] F__law_lots)) (C__law_parts : Cal P w K mg base "_law_parts" 1 (spW (gam K) [] F__law_parts)) (Fn : FnD K "_law_states" "_law_states" s__law_states dvs f fd) : FnOk P w K mg base CX0 2 f fd ["_law_tags", "_law_deep_so"] (spOf K (spW (gam K) [] F__law_states)) := by
  refine fn_ok (n := 1) (t := B__law_states) (by rfl) Fn sc__law_states fun cdv A outer s H E hr => ?_
  have sc := sc__law_states
  exact (b_cons (r_par (i := 2) (j := 3) rfl sc.nd rfl rfl (by decide) rfl rfl rfl (IE.io (IL.frz (l_lst a_nil))) (IE.io (i_add (IL.frz (l_listRg rfl rfl T.b_list rfl T.b_range (i_add (i_v (i := 1)) i_int))) (IL.frz (l_lst (a_cons i_non a_nil)))))) (b_cons (r_for PassesOwn.never rfl (n_any (i_sl10 (IE.iv (i_call C__law_parts (hr.mono (by omega)) rfl (w_nil (a_cons (i_var (i := 0) rfl (.inr (.inl rfl)) rfl rfl) a_nil)))) i_int)) (g_n (i := 4) sc.nd) (b_one (r_for PassesOwn.never rfl (n_any (i_v (i := 3))) (g_n (i := 5) sc.nd) (b_cons (r_set (i := 6) sc.nd rfl (.inl rfl) (.inr rfl) (IE.io (i_call C__law_lots (hr.mono (by omega)) rfl (w_nil (a_cons (i_var (i := 0) rfl (.inr (.inl rfl)) rfl rfl) (a_cons (i_var (i := 4) rfl (.inr (.inl rfl)) rfl rfl) (a_cons (i_v (i := 5)) (a_cons (i_v (i := 3)) a_nil)))))))) (b_one (r_set (i := 2) sc.nd rfl (.inl rfl) (.inr rfl) (IE.io (i_add (i_v (i := 2)) (IL.frz (l_lc (own := [("_law_own", 7)]) rfl sc.nd (blkOk_by rfl) (by decide) (n_any (i_v (i := 6))) (by decide) (fun s H C cl fp => (g_n (i := 7) sc.nd)) (fun s H C cl fp => ts_nil) (fun s H C cl fp => (i_tup (a_cons (i_dz rfl rfl T.b_dict rfl T.b_zip (i_var (i := 0) rfl (by first | exact .inl rfl | exact .inr (.inl rfl) | exact .inr (.inr rfl)) rfl rfl) (i_v (i := 7))) (a_cons (i_var (i := 4) rfl (by first | exact .inl rfl | exact .inr (.inl rfl) | exact .inr (.inr rfl)) rfl rfl) a_nil)))))))))))))) (b_one (r_ret (i_v (i := 2))))))
theorem sc__law_due : FnScope ["_law_states_so", "_law_row", "_law_far", "_law_own"] ["_law_states_so", "_law_row", "_law_far"] (defScope s__law_due) := ⟨rfl, rfl, rfl, by decide +kernel, rfl, by decide +kernel, by decide +kernel⟩
theorem ok__law_due (T : Top K mg) (C__law_ends : Cal P w K mg base "_law_ends" 1 (spW (gam K) [] F__law_ends)) (Fn : FnD K "_law_due" "_law_due" s__law_due dvs f fd) : FnOk P w K mg base CX0 2 f fd ["_law_states_so", "_law_row", "_law_far"] (spOf K (spW (gam K) [] F__law_due)) := by
  refine fn_ok (n := 1) (t := B__law_due) (by rfl) Fn sc__law_due fun cdv A outer s H E hr => ?_
  have sc := sc__law_due
  exact (b_one (r_ret (i_not (i_any rfl rfl T.b_any (IE.iv (IL.frz (l_lc (own := [("_law_own", 3)]) rfl sc.nd (blkOk_by rfl) (by decide) (n_any (i_v (i := 0))) (by decide) (fun s H C cl fp => (g_n (i := 3) sc.nd)) (fun s H C cl fp => ts_nil) (fun s H C cl fp => (i_and (i_call C__law_ends (hr.mono (by omega)) rfl (w_nil (a_cons (i_v (i := 3)) (a_cons (i_var (i := 1) rfl (by first | exact .inl rfl | exact .inr (.inl rfl) | exact .inr (.inr rfl)) rfl rfl) a_nil)))) (i_b1 (i_not (i_call C__law_ends (hr.mono (by omega)) rfl (w_nil (a_cons (i_v (i := 3)) (a_cons (i_var (i := 2) rfl (by first | exact .inl rfl | exact .inr (.inl rfl) | exact .inr (.inr rfl)) rfl rfl) a_nil)))))))))))))))
theorem sc__law_by_hand_right : FnScope ["_law_states_so", "_law_cases", "_law_due_here", "_law_row", "_law_far"] ["_law_states_so"] (defScope s__law_by_hand_right) := ⟨rfl, rfl, rfl, by decide +kernel, rfl, by decide +kernel, by decide +kernel⟩
theorem ok__law_by_hand_right (T : Top K mg) (C__law_due : Cal P w K mg base "_law_due" 2 (spW (gam K) [] F__law_due)) (C__law_same : Cal P w K mg base "_law_same" 6 (spW (gam K) [] (F__law_same 5))) (C_path_tells : Cal P w K mg base "path_tells" 7 (spW (gam K) [] F_path_tells)) (Fn : FnD K "_law_by_hand_right" "_law_by_hand_right" s__law_by_hand_right dvs f fd) : FnOk P w K mg base CX0 8 f fd ["_law_states_so"] (spOf K (spW (gam K) [] F__law_by_hand_right)) := by
  refine fn_ok (n := 7) (t := B__law_by_hand_right) (by rfl) Fn sc__law_by_hand_right fun cdv A outer s H E hr => ?_
  have sc := sc__law_by_hand_right
  exact (b_cons (r_set (i := 1) sc.nd rfl (.inl rfl) (.inr rfl) (IE.io (IL.frz (l_lst (a_cons (i_tup (a_cons i_str (a_cons i_str a_nil))) (a_cons (i_tup (a_cons i_str (a_cons i_str a_nil))) (a_cons (i_tup (a_cons i_str (a_cons i_str a_nil))) (a_cons (i_tup (a_cons i_str (a_cons i_str a_nil))) (a_cons (i_tup (a_cons i_str (a_cons i_str a_nil))) (a_cons (i_tup (a_cons i_str (a_cons i_str a_nil))) (a_cons (i_tup (a_cons i_str (a_cons i_str a_nil))) a_nil))))))))))) (b_cons (r_set (i := 1) sc.nd rfl (.inl rfl) (.inr rfl) (IE.io (i_add (i_v (i := 1)) (IL.frz (l_lst (a_cons (i_tup (a_cons i_str (a_cons i_str a_nil))) (a_cons (i_tup (a_cons i_str (a_cons i_str a_nil))) (a_cons (i_tup (a_cons i_str (a_cons i_str a_nil))) (a_cons (i_tup (a_cons i_str (a_cons i_str a_nil))) (a_cons (i_tup (a_cons i_str (a_cons i_str a_nil))) (a_cons (i_tup (a_cons i_str (a_cons i_str a_nil))) (a_cons (i_tup (a_cons i_str (a_cons i_str a_nil))) (a_cons (i_tup (a_cons i_str (a_cons i_str a_nil))) a_nil))))))))))))) (b_cons (r_set (i := 2) sc.nd rfl (.inl rfl) (.inr rfl) (IE.io (IL.frz (l_lst (a_cons i_bl (a_cons i_bl (a_cons i_bl (a_cons i_bl (a_cons i_bl (a_cons i_bl (a_cons i_bl (a_cons i_bl (a_cons i_bl (a_cons i_bl (a_cons i_bl (a_cons i_bl (a_cons i_bl (a_cons i_bl (a_cons i_bl a_nil))))))))))))))))))) (b_cons (r_if (t_not (t_truth (fun _ => rfl) (IE.iv (i_call C__law_same (hr.mono (by omega)) rfl (w_nil (a_cons (IL.frz (l_lc (own := [("_law_row", 3), ("_law_far", 4)]) rfl sc.nd (blkOk_by rfl) (by decide) (n_any (i_v (i := 1))) (by decide) (fun s H C cl fp => (g_tup rfl (gs_cons (g_n (i := 3) sc.nd) (gs_cons (g_n (i := 4) sc.nd) gs_nil)) rfl)) (fun s H C cl fp => ts_nil) (fun s H C cl fp => (i_call C_path_tells (hr.mono (by omega)) rfl (w_nil (a_cons (i_tuple rfl rfl T.b_tuple (iv_v (i := 3))) (a_cons (i_tuple rfl rfl T.b_tuple (iv_v (i := 4))) a_nil))))))) (a_cons (i_v (i := 2)) a_nil))))))) (b_one (r_ret i_bl)) b_nil) (b_one (r_ret (i_cm (k_eq hr.units (IL.frz (l_lc (own := [("_law_row", 3), ("_law_far", 4)]) rfl sc.nd (blkOk_by rfl) (by decide) (n_any (i_v (i := 1))) (by decide) (fun s H C cl fp => (g_tup rfl (gs_cons (g_n (i := 3) sc.nd) (gs_cons (g_n (i := 4) sc.nd) gs_nil)) rfl)) (fun s H C cl fp => ts_nil) (fun s H C cl fp => (i_call C__law_due (hr.mono (by omega)) rfl (w_nil (a_cons (i_var (i := 0) rfl (by first | exact .inl rfl | exact .inr (.inl rfl) | exact .inr (.inr rfl)) rfl rfl) (a_cons (i_v (i := 3)) (a_cons (i_v (i := 4)) a_nil)))))))) (i_v (i := 2))))))))))
theorem sc__law_right : FnScope ["_law_urn", "_law_states_so", "_law_turn", "_law_row", "_law_far"] ["_law_urn", "_law_states_so"] (defScope s__law_right) := ⟨rfl, rfl, rfl, by decide +kernel, rfl, by decide +kernel, by decide +kernel⟩
theorem ok__law_right (T : Top K mg) (C__law_due : Cal P w K mg base "_law_due" 2 (spW (gam K) [] F__law_due)) (C__law_same : Cal P w K mg base "_law_same" 6 (spW (gam K) [] (F__law_same 5))) (C__law_take : Cal P w K mg base "_law_take" 1 (spW (gam K) [] takeP)) (C__law_trail : Cal P w K mg base "_law_trail" 3 (spW (gam K) [] F__law_trail)) (C_path_tells : Cal P w K mg base "path_tells" 7 (spW (gam K) [] F_path_tells)) (Fn : FnD K "_law_right" "_law_right" s__law_right dvs f fd) : FnOk P w K mg base CX0 8 f fd ["_law_urn", "_law_states_so"] (spOf K (spW (gam K) [] F__law_right)) := by
  refine fn_ok (n := 7) (t := B__law_right) (by rfl) Fn sc__law_right fun cdv A outer s H E hr => ?_
  have sc := sc__law_right
  exact (b_cons (r_for PassesOwn.never rfl (n_rg1 rfl T.b_range i_int) (g_n (i := 2) sc.nd) (b_cons (r_par (i := 3) (j := 4) rfl sc.nd rfl rfl (by decide) rfl rfl rfl (IE.io (i_call C__law_trail (hr.mono (by omega)) rfl (w_nil (a_cons (i_v (i := 0)) (a_cons (IL.frz (l_lst (a_cons i_str (a_cons i_str (a_cons i_str a_nil))))) (a_cons i_int a_nil)))))) (IE.io (i_call C__law_trail (hr.mono (by omega)) rfl (w_nil (a_cons (i_v (i := 0)) (a_cons (IL.frz (l_lst (a_cons i_str (a_cons i_str (a_cons i_str a_nil))))) (a_cons i_int a_nil))))))) (b_cons (r_if (t_cm (k_co2 (i_call C__law_take (hr.mono (by omega)) rfl (w_nil (a_cons (i_v (i := 0)) (a_cons i_int a_nil)))) i_int)) (b_one (r_set (i := 4) sc.nd rfl (.inl rfl) (.inr rfl) (IE.io (i_add (i_sl01 (iv_v (i := 4)) (i_neg i_int)) (i_sl10 (iv_v (i := 3)) (i_neg i_int)))))) b_nil) (b_one (r_if (t_not (t_truth (fun _ => rfl) (IE.iv (i_call C__law_same (hr.mono (by omega)) rfl (w_nil (a_cons (i_call C_path_tells (hr.mono (by omega)) rfl (w_nil (a_cons (i_v (i := 3)) (a_cons (i_v (i := 4)) a_nil)))) (a_cons (i_call C__law_due (hr.mono (by omega)) rfl (w_nil (a_cons (i_v (i := 1)) (a_cons (i_v (i := 3)) (a_cons (i_v (i := 4)) a_nil))))) a_nil))))))) (b_one (r_ret i_bl)) b_nil))))) (b_one (r_ret i_bl)))
theorem sc_law : FnScope ["_law_script", "_law_states_so", "_law_cells_here", "_law_k"] ["_law_script"] (defScope s_law) := ⟨rfl, rfl, rfl, by decide +kernel, rfl, by decide +kernel, by decide +kernel⟩
theorem ok_law (T : Top K mg) (C__law_by_hand_right : Cal P w K mg base "_law_by_hand_right" 8 (spW (gam K) [] F__law_by_hand_right)) (C__law_cells : Cal P w K mg base "_law_cells" 1 (spW (gam K) [] F__law_cells)) (C__law_right : Cal P w K mg base "_law_right" 8 (spW (gam K) [] F__law_right)) (C__law_states : Cal P w K mg base "_law_states" 2 (spW (gam K) [] F__law_states)) (C_box : Cal P w K mg base "_law_box" 1 spBox) (W__law_right : ∀ d, ck75 d = true → wpB true 1000000 (F__law_right [.cell 0, d]) fun d _ => d = .bl true) (Fn : FnD K "law" "law" s_law dvs f fd) : FnOk P w K mg base CX0 9 f fd ["_law_script"] (spOf K (spW (gam K) [] F_law)) := by
  refine fn_ok (n := 8) (t := B_law) (by rfl) Fn sc_law fun cdv A outer s H E hr => ?_
  have sc := sc_law
  exact (b_cons (r_set (i := 1) sc.nd rfl (.inr rfl) (.inl rfl) (IE.io (i_call C__law_states (hr.mono (by omega)) rfl (w_nil (a_cons (IL.frz (l_lst (a_cons i_str (a_cons i_str (a_cons i_str a_nil))))) (a_cons i_int a_nil)))))) (b_cons (r_if (t_not (t_truth (fun _ => rfl) (IE.iv (i_call C__law_by_hand_right (hr.mono (by omega)) rfl (w_nil (a_cons (i_var (i := 1) rfl (.inr (.inl rfl)) rfl rfl) a_nil)))))) (b_one (r_ret i_bl)) b_nil) (b_cons (r_set (i := 2) sc.nd rfl (.inr rfl) (.inl rfl) (IE.io (i_call C__law_cells (hr.mono (by omega)) rfl (w_nil (a_cons (i_v (i := 0)) (a_cons i_int a_nil)))))) (b_one (r_ret (i_all rfl rfl T.b_all (IE.iv (IL.frz (l_lc (own := [("_law_k", 3)]) rfl sc.nd (blkOk_by rfl) (by decide) (n_rg1 rfl T.b_range (i_len rfl T.b_len (iv_var (i := 2) rfl (.inr (.inl rfl)) rfl rfl))) (by decide) (fun s H C cl fp => (g_n (i := 3) sc.nd)) (fun s H C cl fp => ts_nil) (fun s H C cl fp => (i_box2 C_box C__law_right (hr.mono (by omega)) (hr.mono (by omega)) rfl rfl ck75_rn W__law_right (i_var (i := 2) rfl (by first | exact .inl rfl | exact .inr (.inl rfl) | exact .inr (.inr rfl)) rfl rfl) (i_v (i := 3)) (i_var (i := 1) rfl (by first | exact .inl rfl | exact .inr (.inl rfl) | exact .inr (.inr rfl)) rfl rfl))))))))))))
end
end Q75
end
section
set_option Elab.async false
set_option linter.all false
set_option maxRecDepth 100000
namespace Q75
open PySem L2 DL
local macro_rules | `(tactic| tm_at "size") => `(tactic| first | decide | assumption | omega | (simp [PySem.sizeLine_eq]; done) | (simp [PySem.sizeLine_eq]; omega) | (simp [PySem.sizeLine_eq] at *; omega))
local macro_rules | `(tactic| tm_at "rng") => `(tactic| first | decide | (constructor <;> omega) | (refine ⟨?_, ?_, ?_, ?_⟩ <;> omega) | (simp; omega))
local macro_rules | `(tactic| tm_at "at") => `(tactic| first | exact rfl | exact at_cell (by assumption) rfl | exact at_cell mup_same rfl)
local macro_rules | `(tactic| tm_at "cell") => `(tactic| first | assumption | exact mup_same | (rw [mup_ne (by assumption)]; assumption) | (rw [mup_ne (Ne.symm (by assumption))]; assumption))
local macro_rules | `(tactic| tm_at "add") => `(tactic| first | refine add_int ?_ | refine add_str (by tm_at "size") ?_ | refine add_lst (by tm_at "size") ?_ | refine add_tup (by tm_at "size") ?_)
local macro_rules | `(tactic| tm_at "num") => `(tactic| refine num_int ?_)
local macro_rules | `(tactic| tm_at "mulok") => `(tactic| first | exact CMul.ok (.inl (by constructor <;> omega)) | exact CMul.ok (.inr (by constructor <;> omega)))
local macro_rules | `(tactic| tm_at "mul") => `(tactic| first | refine DL.mul_int (by tm_at "mulok") ?_ | refine mul_lst (by decide) ?_)
local macro_rules | `(tactic| tm_at "intc") => `(tactic| first | decide | omega | assumption | exact ⟨by decide, by decide⟩ | exact ⟨by omega, by assumption⟩ | exact ⟨by decide, by decide, by decide⟩)
local macro_rules | `(tactic| tm_at "intp") => `(tactic| refine intp_int (by tm_at "intc") ?_)
local macro_rules | `(tactic| tm_at "co") => `(tactic| first | refine DL.lt_int ?_ | refine DL.le_int ?_ | refine DL.gt_int ?_ | refine DL.ge_int ?_)
local macro_rules | `(tactic| tm_at "eq") => `(tactic| first | refine DL.eq_int ?_ | refine DL.eq_str ?_ | refine DL.eq_bl ?_ | refine DL.eq_non ?_ | refine DL.eq_nonI ?_)
local macro_rules | `(tactic| tm_at "noteq") => `(tactic| first | refine DL.ne_int ?_ | refine DL.ne_str ?_ | refine DL.ne_bl ?_)
local macro_rules | `(tactic| tm_at "sl") => `(tactic| first | refine sl_tup ?_ | refine DL.sl_lst ?_ | refine sl_frl ?_ | refine DL.sl_str (by tm_at "size") ?_)
local macro_rules | `(tactic| tm_at "strs") => `(tactic| first | rfl | exact strL rfl | assumption)
local macro_rules | `(tactic| tm_at "seq") => `(tactic| first | rfl | assumption)
local macro_rules | `(tactic| tm_at "in") => `(tactic| refine .inl ⟨_, _, _, rfl, rfl, rfl, ?_⟩)
local macro_rules | `(tactic| tm_at "nm") => `(tactic| first | assumption | exact nm_nil | exact nm_ss (by tm_at "nm") | exact nm_andN (by tm_at "nm") (by tm_at "nm"))
local macro_rules | `(tactic| tm_at "jsize") => `(tactic| first | exact jsz (by tm_at "nm") (by tm_at "size") (by decide))
local macro_rules | `(tactic| tm_at "jsize2") => `(tactic| exact Nat.le_trans (Nat.add_le_add_left (jsz2 (by tm_at "nm") (by tm_at "size") (by decide)) _) (by decide))
section
variable {P : Program} {w : World} {K : PySem.W.Frag} {mg : Str → Option Value} {base : Heap} {M : Store}
theorem box_pos (i : Int) (c : Bool) : 0 ≤ (if i < 0 then -i else i) * (if c = true then 1 else 0) := by
  split <;> split <;> omega
theorem small01 (c : Bool) : -(2 ^ 64) < (if c = true then (1 : Int) else 0) ∧ (if c = true then (1 : Int) else 0) < 2 ^ 64 := by cases c <;> decide
theorem atI_ints {ns : List Int} {j : Nat} (h : j < ns.length) : atD M (.lst (ns.map D.int)) (j : Nat) = some (.int ns[j]) := by
  show atI (ns.map D.int) (j : Nat) = _
  refine DL.atI_nat ?_
  rw [List.getElem?_map, List.getElem?_eq_getElem h]
  rfl
theorem sc__law_take : FnScope ["_law_urn", "_law_low_so", "_law_drawn", "_law_once", "_law_far", "_law_twice"] ["_law_urn", "_law_low_so"] (defScope s__law_take) := ⟨rfl, rfl, rfl, by decide +kernel, rfl, by decide +kernel, by decide +kernel⟩
set_option maxHeartbeats 4000000 in
theorem ok__law_take (T : Top K mg)   {f : Addr} {fd : FuncData} {dvs : List V} (Fn : FnD K "_law_take" "_law_take" s__law_take dvs f fd) : FnOk P w K mg base CX0 (0 + 1) f fd ["_law_urn", "_law_low_so"] (spOf K spTake) := by
  refine ok_dD Fn sc__law_take (fun ds M k h => by obtain ⟨u, low, n, rfl, _⟩ := h; rfl) fun cdv A outer s H E ds M k hr h => ?_
  have sc := sc__law_take
  obtain ⟨u, low, n, rfl, hl, hb, ⟨a, b, c, hM, ha, hb0, hb1, hc, hcn⟩, hk⟩ := h
  refine ss_cons ?_
  refine s_if ?_
  refine te_c1 (by first | exact nomark _ | rfl) ?_
  refine c_co ?_
  refine ev_ix (fun _ _ => rfl) ?_
  refine ev_var (i := 0) rfl (.inl rfl) rfl rfl rfl ?_
  refine ev_int ?_
  refine ⟨_, _, rfl, by tm_at "at", ?_⟩
  refine ev_int ?_
  tm_at "co"
  refine ⟨_, rfl, ?_⟩
  refine iteB (fun h1 => ?_) (fun h1 => ?_)
  · refine ss_cons ?_
    refine s_set (i := 2) sc.nd rfl (.inl rfl) (.inr rfl) ?_
    refine ev_mod ?_
    refine ev_intc rfl T.b_int ?_
    refine ev_ix (fun _ _ => rfl) ?_
    refine ev_var (i := 0) rfl (.inl rfl) rfl rfl rfl ?_
    refine ev_int ?_
    refine ⟨_, _, rfl, by tm_at "at", ?_⟩
    first | refine intc_int ?_ | refine intc_bl ?_
    refine ev_var (i := 1) rfl (.inl rfl) rfl rfl rfl ?_
    tm_at "intp"
    refine ss_cons ?_
    refine s_put ?_
    refine ev_fdiv ?_
    refine ev_ix (fun _ _ => rfl) ?_
    refine ev_var (i := 0) rfl (.inl rfl) rfl rfl rfl ?_
    refine ev_int ?_
    refine ⟨_, _, rfl, by tm_at "at", ?_⟩
    refine ev_var (i := 1) rfl (.inl rfl) rfl rfl rfl ?_
    tm_at "intp"
    refine ev_var (i := 0) rfl (.inl rfl) rfl rfl rfl ?_
    refine ev_int ?_
    refine ⟨_, _, _, _, rfl, rfl, by tm_at "cell", rfl, ?_⟩
    refine ss_one ?_
    refine s_ret ?_
    refine ev_var (i := 2) rfl (.inl rfl) rfl rfl rfl ?_
    have ha' : 0 ≤ a / low := Int.ediv_nonneg ha (by omega)
    exact hk _ _ (Int.emod_nonneg _ (by omega)) (Int.emod_lt_of_pos _ hl) Keep.mup ⟨_, b, c, mup_same, ha', hb0, hb1, hc, by omega⟩
  · refine ss_nil ?_
    refine ss_cons ?_
    refine s_put ?_
    refine ev_add ?_
    refine ev_ix (fun _ _ => rfl) ?_
    refine ev_var (i := 0) rfl (.inl rfl) rfl rfl rfl ?_
    refine ev_int ?_
    refine ⟨_, _, rfl, by tm_at "at", ?_⟩
    refine ev_int ?_
    tm_at "add"
    refine ev_var (i := 0) rfl (.inl rfl) rfl rfl rfl ?_
    refine ev_int ?_
    refine ⟨_, _, _, _, rfl, rfl, by tm_at "cell", rfl, ?_⟩
    refine ss_cons ?_
    refine s_set (i := 3) sc.nd rfl (.inl rfl) (.inr rfl) ?_
    refine ev_mod ?_
    refine ev_intc rfl T.b_int ?_
    refine ev_mul ?_
    refine ev_add ?_
    refine ev_ix (fun _ _ => rfl) ?_
    refine ev_var (i := 0) rfl (.inl rfl) rfl rfl rfl ?_
    refine ev_int ?_
    refine ⟨_, _, rfl, by tm_at "at", ?_⟩
    refine ev_mul ?_
    refine ev_int ?_
    refine ev_ix (fun _ _ => rfl) ?_
    refine ev_var (i := 0) rfl (.inl rfl) rfl rfl rfl ?_
    refine ev_int ?_
    refine ⟨_, _, rfl, by tm_at "at", ?_⟩
    tm_at "mul"
    tm_at "add"
    refine ev_add ?_
    refine ev_int ?_
    refine ev_ix (fun _ _ => rfl) ?_
    refine ev_var (i := 0) rfl (.inl rfl) rfl rfl rfl ?_
    refine ev_int ?_
    refine ⟨_, _, rfl, by tm_at "at", ?_⟩
    tm_at "add"
    refine DL.mul_int (CMul.ok (.inr (by constructor <;> omega))) ?_
    first | refine intc_int ?_ | refine intc_bl ?_
    refine ev_int ?_
    tm_at "intp"
    refine ss_cons ?_
    refine s_set (i := 4) sc.nd rfl (.inl rfl) (.inr rfl) ?_
    refine ev_add ?_
    refine ev_mod ?_
    refine ev_intc rfl T.b_int ?_
    refine ev_var (i := 3) rfl (.inl rfl) rfl rfl rfl ?_
    first | refine intc_int ?_ | refine intc_bl ?_
    refine ev_int ?_
    tm_at "intp"
    refine ev_int ?_
    tm_at "add"
    refine ss_cons ?_
    refine s_set (i := 5) sc.nd rfl (.inl rfl) (.inr rfl) ?_
    refine ev_mod ?_
    refine ev_intc rfl T.b_int ?_
    refine ev_mul ?_
    refine ev_add ?_
    refine ev_add ?_
    refine ev_var (i := 3) rfl (.inl rfl) rfl rfl rfl ?_
    refine ev_ix (fun _ _ => rfl) ?_
    refine ev_var (i := 0) rfl (.inl rfl) rfl rfl rfl ?_
    refine ev_int ?_
    refine ⟨_, _, rfl, by tm_at "at", ?_⟩
    tm_at "add"
    refine ev_fdiv ?_
    refine ev_ix (fun _ _ => rfl) ?_
    refine ev_var (i := 0) rfl (.inl rfl) rfl rfl rfl ?_
    refine ev_int ?_
    refine ⟨_, _, rfl, by tm_at "at", ?_⟩
    refine ev_int ?_
    tm_at "intp"
    tm_at "add"
    refine ev_var (i := 4) rfl (.inl rfl) rfl rfl rfl ?_
    tm_at "mul"
    first | refine intc_int ?_ | refine intc_bl ?_
    refine ev_int ?_
    tm_at "intp"
    refine ss_one ?_
    refine s_ret ?_
    refine ev_mod ?_
    refine ev_intc rfl T.b_int ?_
    refine ev_fdiv ?_
    refine ev_mod ?_
    refine ev_intc rfl T.b_int ?_
    refine ev_add ?_
    refine ev_mul ?_
    refine ev_var (i := 5) rfl (.inl rfl) rfl rfl rfl ?_
    refine ev_int ?_
    tm_at "mul"
    refine ev_var (i := 3) rfl (.inl rfl) rfl rfl rfl ?_
    tm_at "add"
    first | refine intc_int ?_ | refine intc_bl ?_
    refine ev_int ?_
    tm_at "intp"
    refine ev_int ?_
    tm_at "intp"
    first | refine intc_int ?_ | refine intc_bl ?_
    refine ev_var (i := 1) rfl (.inl rfl) rfl rfl rfl ?_
    tm_at "intp"
    exact hk _ _ (Int.emod_nonneg _ (by omega)) (Int.emod_lt_of_pos _ hl) Keep.mup ⟨a, b, c + 1, mup_same, ha, hb0, hb1, by omega, by omega⟩
theorem sc__law_box : FnScope ["_law_script", "_law_k", "_law_cell"] ["_law_script", "_law_k"] (defScope s__law_box) := ⟨rfl, rfl, rfl, by decide +kernel, rfl, by decide +kernel, by decide +kernel⟩
set_option maxHeartbeats 4000000 in
theorem ok__law_box (T : Top K mg)   {f : Addr} {fd : FuncData} {dvs : List V} (Fn : FnD K "_law_box" "_law_box" s__law_box dvs f fd) : FnOk P w K mg base CX0 (0 + 1) f fd ["_law_script", "_law_k"] (spOf K spBox) := by
  refine ok_dD Fn sc__law_box (fun ds M k h => by obtain ⟨ns, j, rfl, _⟩ := h; rfl) fun cdv A outer s H E ds M k hr h => ?_
  have sc := sc__law_box
  obtain ⟨ns, j, rfl, hj, hj2, hk⟩ := h
  refine ss_cons ?_
  refine s_set (i := 2) sc.nd rfl (.inl rfl) (.inr rfl) ?_
  refine ev_if ?_
  refine te_c1 (by first | exact nomark _ | rfl) ?_
  refine c_co ?_
  refine ev_var (i := 1) rfl (.inl rfl) rfl rfl rfl ?_
  refine ev_len rfl T.b_len ?_
  refine ev_var (i := 0) rfl (.inl rfl) rfl rfl rfl ?_
  refine ⟨_, rfl, ?_⟩
  tm_at "co"
  refine ⟨_, rfl, ?_⟩
  refine iteB (fun h1 => ?_) (fun h1 => ?_)
  · refine ev_ix (fun _ _ => rfl) ?_
    refine ev_var (i := 0) rfl (.inl rfl) rfl rfl rfl ?_
    refine ev_var (i := 1) rfl (.inl rfl) rfl rfl rfl ?_
    refine ⟨_, .int (ns[j]), rfl, ?_, ?_⟩
    · exact atI_ints hj
    refine ss_one ?_
    refine s_ret ?_
    refine EvL.cell ?_
    refine el_lst ?_
    refine ea_cons ?_
    refine ev_mul ?_
    refine ev_abs rfl T.b_abs ?_
    refine ev_var (i := 2) rfl (.inl rfl) rfl rfl rfl ?_
    refine num1_int ?_
    refine ev_intc rfl T.b_int ?_
    refine ev_c1 (by first | exact nomark _ | rfl) ?_
    refine c_co ?_
    refine ev_abs rfl T.b_abs ?_
    refine ev_var (i := 2) rfl (.inl rfl) rfl rfl rfl ?_
    refine num1_int ?_
    refine ev_pow ?_
    refine ev_int ?_
    refine ev_int ?_
    tm_at "intp"
    tm_at "co"
    first | refine intc_int ?_ | refine intc_bl ?_
    refine DL.mul_int (CMul.ok (.inr (small01 _))) ?_
    refine ea_cons ?_
    refine ev_add ?_
    refine ev_add ?_
    refine ev_mod ?_
    refine ev_intc rfl T.b_int ?_
    refine ev_var (i := 2) rfl (.inl rfl) rfl rfl rfl ?_
    first | refine intc_int ?_ | refine intc_bl ?_
    refine ev_int ?_
    tm_at "intp"
    refine ev_mul ?_
    refine ev_int ?_
    refine ev_var (i := 1) rfl (.inl rfl) rfl rfl rfl ?_
    tm_at "mul"
    tm_at "add"
    refine ev_int ?_
    tm_at "add"
    refine ea_cons ?_
    refine ev_int ?_
    refine ea_nil ?_
    refine ⟨by tm_at "size", ?_⟩
    intro q2 nq2
    have hm := Int.emod_nonneg (ns[j]) (show (2305843009213693951 : Int) ≠ 0 by decide)
    have hm2 := Int.emod_lt_of_pos (ns[j]) (show (0 : Int) < 2305843009213693951 by decide)
    refine hk _ _ (Keep0.refl.new nq2) nq2 ⟨_, _, _, mup_same, ?_, ?_, ?_, by decide, by decide⟩
    · exact box_pos _ _
    · omega
    · omega
  · exact absurd h1 (by simp; omega)
end
end Q75
end
section
set_option Elab.async false
set_option linter.all false
set_option maxRecDepth 100000
namespace DL
open PySem L2
section
variable {Δ : List Sl} {s t r : SE} {i j : Nat} {d e c : D} {ds es : List D} {A : SA} {T U : SB} {α β δ : Type} {f : α → D} {g : β → D} {xs ys : List α}
theorem q_lcid {p : α → Bool} {m : Pg (List D)} (h : m = .ret (((xs.filter p).map fun y => y).map f)) : m = .ret ((xs.filter p).map f) := by
  rw [h, List.map_id']
theorem cut_last : cutL xs none (some (-1)) = xs.dropLast := by
  unfold cutL
  have e1 : HT.sIx xs.length 0 none = 0 := rfl
  have e2 : HT.sIx xs.length xs.length (some (-1)) = xs.length - 1 := by
    unfold HT.sIx
    simp
    omega
  rw [e1, e2, List.drop_zero, List.dropLast_eq_take]
  rfl
theorem cut_take {n : Nat} : cutL xs none (some (n : Int)) = xs.take n := by
  unfold cutL
  have e1 : HT.sIx xs.length 0 none = 0 := rfl
  have e2 : HT.sIx xs.length xs.length (some (n : Int)) = min n xs.length := by
    unfold HT.sIx
    simp
    omega
  rw [e1, e2, List.drop_zero, Nat.sub_zero]
  by_cases h : n ≤ xs.length
  · rw [Nat.min_eq_left h]
  · rw [Nat.min_eq_right (by omega), List.take_length, List.take_of_length_le (by omega)]
theorem o_cutLastT : sl01 (eT f xs) (.int (-1)) = some (eT f xs.dropLast) := by rw [← cut_last]; exact o_slT
theorem o_v (hs : s Δ = .ret d) : oV s Δ = .ret (.v d) := by
  show (s Δ).bind _ = _
  rw [hs]; rfl
theorem z_par2 {a b : List Sl → Pg Sl} {x y : Sl} {Δ1 : List Sl} (h1 : a Δ = .ret x) (h2 : b Δ = .ret y) (h : (Δ.set i x).set j y = Δ1 := by rfl) : tPar i j a b Δ = .ret (.nx Δ1) := by
  show (a Δ).bind _ = _
  rw [h1, bind_ret, h2, bind_ret, h]
theorem z_asg {tg : Tg} {Δ1 : List Sl} (hs : s Δ = .ret d) (h : tgS tg d Δ = some Δ1 := by rfl) : DL.tAsg tg (xE s) Δ = .ret (.nx Δ1) := by
  show ((s Δ).bind _).bind _ = _
  rw [hs, bind_ret, bind_ret]
  show (ofO (tgS tg d Δ)).bind _ = _
  rw [h]; rfl
end
/-! equality of typed things -/
structure EqE {α : Type} [DecidableEq α] (f : α → D) (n : Nat) (S : α → Prop) : Prop where
  py : ∀ a, ∃ p, toPy (f a) = some p ∧ p.depth ≤ n ∧ (S a → p.canLay0 = true)
  eqv : ∀ a b p q, toPy (f a) = some p → toPy (f b) = some q → PyData.eqv p q = decide (a = b)
  o : ∀ neg a b, eqO neg (f a) (f b) = eqQ neg (f a) (f b) ∨ eqO neg (f a) (f b) = some (.bl (if neg then !decide (a = b) else decide (a = b)))
section
variable {α β γ : Type} [DecidableEq α] [DecidableEq β] [DecidableEq γ] {f : α → D} {g : β → D} {k : γ → D} {n m l : Nat} {S : α → Prop} {R : β → Prop} {Q : γ → Prop}
end
end DL
namespace DL
theorem z_setO {Δ : List Sl} {i : Nat} {a : List Sl → Pg Sl} {x : Sl} {Δ1 : List Sl} (h1 : a Δ = .ret x) (h : Δ.set i x = Δ1 := by rfl) : tSet i a Δ = .ret (.nx Δ1) := by
  show (a Δ).bind _ = _
  rw [h1, bind_ret, h]
end DL
namespace DL
end DL
end
section
set_option Elab.async false
set_option linter.all false
set_option maxRecDepth 100000
/-! typed readings of programs that draw -/
namespace DL
open PySem L2
structure Ref {α : Type} (p q : Pg α) : Prop where
  go : ∀ n k, wpB true n p k → wpB true n q k
open Classical in
noncomputable def asr {α : Type} (c : Prop) (p : Pg α) : Pg α := if c then p else .fail
/-- what a part of a program gives: it goes on (σ), or it returns (τ) -/
def mapP {α β : Type} (e : α → Pg β) : List α → Pg (List β)
  | [] => .ret []
  | x :: xs => (e x).bind fun r => (mapP e xs).bind fun rs => .ret (r :: rs)
def loopM {α σ τ : Type} (step : σ → α → Pg (σ ⊕ τ)) : List α → σ → Pg (σ ⊕ τ)
  | [], z => .ret (.inl z)
  | x :: xs, z => (step z x).bind fun r => match r with
    | .inl z => loopM step xs z
    | .inr t => .ret (.inr t)
section
variable {α β σ τ ω ρ : Type} {Δ : List Sl} {s t r : SE} {i j : Nat} {d e : D} {ds es : List D} {A : SA} {T U : SB} {f : α → D} {g : β → D} {xs ys : List α} {p q : Pg ρ} {X : Pg τ} {R : τ → Pg ρ}
theorem Ref.refl : Ref p p := ⟨fun _ _ h => h⟩
theorem Ref.trans {p q r : Pg ρ} (h : Ref p q) (h' : Ref q r) : Ref p r := ⟨fun n k w => h'.go n k (h.go n k w)⟩
theorem Ref.bind {p q : Pg α} {f g : α → Pg β} (h : Ref p q) (hf : ∀ a, Ref (f a) (g a)) : Ref (p.bind f) (q.bind g) := ⟨fun n k w => wpB_bind.2 ((h.go n _ (wpB_bind.1 w)).mono fun a m w => (hf a).go m k w)⟩
theorem bind_pure : ∀ p : Pg α, p.bind .ret = p
  | .ret a => rfl
  | .fail => rfl
  | .draw l f => by
    show Pg.draw l _ = _
    congr 1
    funext d
    exact bind_pure (f d)
theorem m_end {v : τ} {q : Pg ρ} (h : Ref (R v) q) : Ref ((Pg.ret v).bind R) q := h
theorem m_asr {c : Prop} (h : c → Ref (X.bind R) q) : Ref ((asr c X).bind R) q := ⟨fun n k w => by
  unfold asr at w
  split at w
  · rename_i hc; exact (h hc).go n k w
  · exact w.elim⟩
theorem m_pure {y : Pg ρ} {s : List Sl → Pg ω} {d : ω} {G : ω → Pg ρ} (h : s Δ = .ret d) (hg : Ref y (G d)) : Ref y ((s Δ).bind G) := by
  rw [h]; exact hg
theorem m_mon {m : Pg α} {s : List Sl → Pg ω} {f : α → ω} {K : α → Pg τ} {G : ω → Pg ρ} (h : Ref (m.bind fun a => .ret (f a)) (s Δ)) (hk : ∀ b, Ref ((K b).bind R) (G (f b))) : Ref ((m.bind K).bind R) ((s Δ).bind G) := by
  have e : (m.bind K).bind R = m.bind fun a => (K a).bind R := bind_assoc _ _ _
  rw [e]
  refine Ref.trans ?_ (Ref.bind h (fun _ => Ref.refl))
  rw [bind_assoc]
  exact Ref.bind Ref.refl hk
theorem m_app {m : Pg α} {p : Pg ω} {f : α → ω} {K : α → Pg τ} {G : ω → Pg ρ} (h : Ref (m.bind fun a => .ret (f a)) p) (hk : ∀ b, Ref ((K b).bind R) (G (f b))) : Ref ((m.bind K).bind R) (p.bind G) := m_mon (Δ := []) (s := fun _ => p) h hk
theorem m_sub {y : Pg ρ} {C : (List Sl → Pg ω) → List Sl → Pg τ} {s : List Sl → Pg ω} {G : τ → Pg ρ} (hC : C s Δ = (s Δ).bind fun d => C (fun _ => .ret d) Δ) (h : Ref y ((s Δ).bind fun d => (C (fun _ => .ret d) Δ).bind G)) : Ref y ((C s Δ).bind G) := by
  rw [hC, bind_assoc]; exact h
theorem m_aN {y : Pg ρ} {G : List D → Pg ρ} (h : Ref y (G [])) : Ref y ((aN Δ).bind G) := h
theorem m_aC {y : Pg ρ} {G : List D → Pg ρ} (h : Ref y ((s Δ).bind fun d => (A Δ).bind fun ds => G (d :: ds))) : Ref y ((aC s A Δ).bind G) := by
  have e : (aC s A Δ).bind G = (s Δ).bind fun d => (A Δ).bind fun ds => G (d :: ds) := by
    show ((s Δ).bind fun d => (A Δ).bind fun ds => .ret (d :: ds)).bind G = _
    rw [bind_assoc]
    congr 1
    funext d
    rw [bind_assoc]
    rfl
  rw [e]; exact h
theorem m_reify {m : Pg τ} {p : Pg ρ} (h : Ref (m.bind R) (p.bind .ret)) : Ref (m.bind R) p := by rw [bind_pure] at h; exact h
theorem m_ite {c : Bool} {X1 X2 : Pg τ} {q1 q2 : Pg ρ} (h1 : c = true → Ref (X1.bind R) q1) (h2 : c = false → Ref (X2.bind R) q2) : Ref ((if c = true then X1 else X2).bind R) (if c = true then q1 else q2) := by
  cases c with
  | true => exact h1 rfl
  | false => exact h2 rfl
/-! comprehensions -/
theorem mapP_ref {tg : Tg} {el : SE} {e : α → Pg β} : ∀ (xs : List α), (∀ x ∈ xs, ∃ Δ1, tgS tg (f x) Δ = some Δ1 ∧ Ref ((e x).bind fun a => .ret (g a)) (el Δ1)) → Ref ((mapP e xs).bind fun a => .ret (a.map g)) (lcP tg DL.tYes el Δ (xs.map f))
  | [], _ => Ref.refl
  | x :: xs, h => by
    obtain ⟨Δ1, h1, h2⟩ := h x (List.mem_cons_self ..)
    have ih := mapP_ref xs fun y hy => h y (List.mem_cons_of_mem _ hy)
    show Ref _ ((ofO (tgS tg (f x) Δ)).bind fun Δ1 => (Pg.ret true).bind fun c => if c = true then (el Δ1).bind fun r => (lcP tg DL.tYes el Δ (xs.map f)).bind fun rs => .ret (r :: rs) else lcP tg DL.tYes el Δ (xs.map f))
    rw [h1]
    show Ref (((e x).bind fun r => (mapP e xs).bind fun rs => .ret (r :: rs)).bind _) ((el Δ1).bind fun r => (lcP tg DL.tYes el Δ (xs.map f)).bind fun rs => .ret (r :: rs))
    refine m_app h2 fun b => ?_
    refine m_app ih fun bs => ?_
    exact Ref.refl
theorem m_lc {y : Pg ρ} {tg : Tg} {vs : List Nat} {tb : SB} {G : List D → Pg ρ} (h : Ref y ((A Δ).bind fun ds => (if ds.length ≤ lim then lcP tg tb s (wipeS Δ vs) ds else .fail).bind G)) : Ref y ((aLc tg vs A tb s Δ).bind G) := by
  have e : (aLc tg vs A tb s Δ).bind G = (A Δ).bind fun ds => (if ds.length ≤ lim then lcP tg tb s (wipeS Δ vs) ds else .fail).bind G := bind_assoc _ _ _
  rw [e]; exact h
theorem m_mapP {tg : Tg} {vs : List Nat} {e : α → Pg β} {K : List β → Pg τ} {G : List D → Pg ρ} (hl : xs.length ≤ lim) (h : ∀ x ∈ xs, ∃ Δ1, tgS tg (f x) (wipeS Δ vs) = some Δ1 ∧ Ref ((e x).bind fun a => .ret (g a)) (s Δ1)) (hk : ∀ b, Ref ((K b).bind R) (G (b.map g))) : Ref (((mapP e xs).bind K).bind R) ((if (xs.map f).length ≤ lim then lcP tg DL.tYes s (wipeS Δ vs) (xs.map f) else .fail).bind G) := by
  rw [if_pos (by rw [List.length_map]; exact hl)]
  exact m_app (mapP_ref xs h) hk
/-! draws -/
noncomputable def drawI (_ : Unit) (low : Int) : Pg Int := asr (lowOk low = true) (.draw low .ret)
theorem r_take (u : Unit) (low : Int) : Ref ((drawI u low).bind fun a => .ret (eI a)) (takeP [eU u, eI low]) := m_asr fun h => by
  show Ref ((Pg.draw low Pg.ret).bind fun a => Pg.ret (D.int a)) (if lowOk low = true then Pg.draw low (fun d => Pg.ret (D.int d)) else Pg.fail)
  rw [if_pos h]
  exact Ref.refl
/-! statements -/
theorem m_run {fl : List Bool} {np N : Nat} {S : ST} {X : Pg τ} {F : τ → D} {ds : List D} (Δ : List Sl) (hn : ds.length = np) (hΔ : startS fl N ds = Δ) (h : Ref (X.bind fun a => .ret (.rt (F a))) (S Δ)) : Ref (X.bind fun a => .ret (F a)) (runF fl np N S ds) := by
  rw [runF_at Δ hn hΔ]
  have e : (X.bind fun a => Pg.ret (F a)) = (X.bind fun a => Pg.ret (Out.rt (F a))).bind outP := by rw [bind_assoc]; rfl
  rw [e]
  exact Ref.bind h fun _ => Ref.refl
/-- what stands behind in a row -/
def goOn0 (S : ST) : Out → Pg Out
  | .nx Δ => S Δ
  | o => .ret o
@[irreducible] def goOn (S : ST) : Out → Pg Out := goOn0 S
theorem goOn_eq {S : ST} : goOn S = goOn0 S := by unfold goOn; rfl
theorem m_seqG {y : Pg ρ} {S1 S2 : ST} {G : Out → Pg ρ} (h : Ref y ((S1 Δ).bind fun o => (goOn S2 o).bind G)) : Ref y ((DL.tSeq S1 S2 Δ).bind G) := by
  have e : DL.tSeq S1 S2 Δ = (S1 Δ).bind (goOn S2) := by
    rw [goOn_eq]
    show (S1 Δ).bind _ = _
    congr 1
  rw [e, bind_assoc]; exact h
theorem m_nxP {y : Pg ρ} {S : ST} {Δ1 : List Sl} {G : Out → Pg ρ} (h : S Δ = .ret (.nx Δ1)) (hg : Ref y (G (.nx Δ1))) : Ref y ((S Δ).bind G) := by
  rw [h]; exact hg
theorem m_if {y : Pg ρ} {S1 S2 : ST} {G : Out → Pg ρ} (h : Ref y ((T Δ).bind fun c => if c = true then (S1 Δ).bind G else (S2 Δ).bind G)) : Ref y ((DL.tIf T S1 S2 Δ).bind G) := by
  have e : (DL.tIf T S1 S2 Δ).bind G = (T Δ).bind fun c => if c = true then (S1 Δ).bind G else (S2 Δ).bind G := by
    show ((T Δ).bind fun c => if c = true then S1 Δ else S2 Δ).bind G = _
    rw [bind_assoc]
    congr 1
    funext c
    cases c <;> rfl
  rw [e]; exact h
theorem m_retG {y : Pg ρ} {G : Out → Pg ρ} (h : Ref y ((s Δ).bind fun d => G (.rt d))) : Ref y ((DL.tRet s Δ).bind G) := by
  have e : (DL.tRet s Δ).bind G = (s Δ).bind fun d => G (.rt d) := bind_assoc _ _ _
  rw [e]; exact h
/-! loops -/
/-- m tells how p ends: on with I, or back with what f makes of it -/
def RefJ (I : σ → List Sl → Prop) (f : α → D) (m : Pg (σ ⊕ α)) (p : Pg Out) : Prop := ∀ (ρ : Type) (R : σ ⊕ α → Pg ρ) (G : Out → Pg ρ), (∀ z Δ, I z Δ → Ref (R (.inl z)) (G (.nx Δ)) ) → (∀ z Δ, I z Δ → Ref (R (.inl z)) (G (.ct Δ)) ) → (∀ a, Ref (R (.inr a)) (G (.rt (f a)))) → Ref (m.bind R) (p.bind G)
theorem loop_ref {γ : Type} {tg : Tg} {body : ST} {e : γ → D} {I : σ → List Sl → Prop} {f : α → D} {step : σ → γ → Pg (σ ⊕ α)} (hb : ∀ z x Δ, I z Δ → RefJ I f (step z x) ((ofO (tgS tg (e x) Δ)).bind body)) : ∀ (xs : List γ) (z : σ) (Δ : List Sl), I z Δ → ∀ (ρ : Type) (R : σ ⊕ α → Pg ρ) (G : Out → Pg ρ), (∀ z Δ, I z Δ → Ref (R (.inl z)) (G (.nx Δ))) → (∀ a, Ref (R (.inr a)) (G (.rt (f a)))) → Ref ((loopM step xs z).bind R) ((forP tg body (xs.map e) Δ).bind G)
  | [], z, Δ, hI, ρ, R, G, h1, h2 => h1 z Δ hI
  | x :: xs, z, Δ, hI, ρ, R, G, h1, h2 => by
    have e1 : forP tg body (e x :: xs.map e) Δ = (((ofO (tgS tg (e x) Δ)).bind body).bind fun o => match o with
      | .nx Δ2 => forP tg body (xs.map e) Δ2
      | .ct Δ2 => forP tg body (xs.map e) Δ2
      | .bk Δ2 => .ret (.nx Δ2)
      | .rt d => .ret (.rt d)) := by rw [bind_assoc]; rfl
    rw [List.map_cons, e1, bind_assoc]
    unfold loopM
    rw [bind_assoc]
    refine hb z x Δ hI ρ _ _ (fun z' Δ' hI' => ?_) (fun z' Δ' hI' => ?_) (fun a => ?_)
    · exact loop_ref hb xs z' Δ' hI' ρ R G h1 h2
    · exact loop_ref hb xs z' Δ' hI' ρ R G h1 h2
    · exact h2 a
theorem m_for {y : Pg ρ} {tg : Tg} {body : ST} {G : Out → Pg ρ} (h : Ref y ((A Δ).bind fun ds => (forP tg body ds Δ).bind G)) : Ref y ((DL.tFor tg A body Δ).bind G) := by
  have e : (DL.tFor tg A body Δ).bind G = (A Δ).bind fun ds => (forP tg body ds Δ).bind G := bind_assoc _ _ _
  rw [e]; exact h
theorem m_loop {γ : Type} {tg : Tg} {body : ST} {e : γ → D} {I : σ → List Sl → Prop} {f : α → D} {step : σ → γ → Pg (σ ⊕ α)} {K : σ ⊕ α → Pg τ} {G : Out → Pg ρ} {xs : List γ} {z : σ} (hb : ∀ z x Δ, I z Δ → RefJ I f (step z x) ((ofO (tgS tg (e x) Δ)).bind body)) (hI : I z Δ) (h1 : ∀ z Δ, I z Δ → Ref ((K (.inl z)).bind R) (G (.nx Δ))) (h2 : ∀ a, Ref ((K (.inr a)).bind R) (G (.rt (f a)))) : Ref (((loopM step xs z).bind K).bind R) ((forP tg body (xs.map e) Δ).bind G) := by
  rw [bind_assoc]
  exact loop_ref hb xs z Δ hI ρ _ G h1 h2
/-! reasoning: at most c draws, then k -/
theorem Co.asr {b : Bool} {n : Nat} {c : Prop} {p : Pg α} {k : α → Prop} (hc : c) (h : Co b n p k) : Co b n (asr c p) k := by
  unfold DL.asr; rw [if_pos hc]; exact h
theorem Co.ref {n : Nat} {p q : Pg α} {k : α → Prop} (h : Ref p q) (hp : Co true n p k) : Co true n q k := fun m => h.go _ _ (hp m)
theorem Co.map {b : Bool} {n : Nat} {p : Pg α} {f : α → β} {k : β → Prop} (h : Co b n p fun a => k (f a)) : Co b n (p.bind fun a => .ret (f a)) k := by
  have q : Co b (n + 0) (p.bind fun a => .ret (f a)) k := Co.bind (c2 := 0) (h.mono fun a ha => Co.ret ha)
  exact q
theorem lowOk_of {low : Int} (h0 : 0 < low) (h1 : low < 2 ^ 200) : lowOk low = true := lowOk_is.2 ⟨h0, h1⟩
theorem co_drawI {u : Unit} {low : Int} {k : Int → Prop} (h0 : 0 < low) (h1 : low < 2 ^ 200) (h : ∀ d, 0 ≤ d → d < low → k d) : Co true 1 (drawI u low) k := Co.asr (lowOk_of h0 h1) (Co.draw (c := 0) h0 h1 fun d d0 d1 => Co.ret (h d d0 d1))
theorem co_mapP {b : Bool} {n : Nat} {e : α → Pg β} {P : β → Prop} : ∀ (xs : List α), (∀ x ∈ xs, Co b n (e x) P) → Co b (xs.length * n) (mapP e xs) fun ys => ys.length = xs.length ∧ ∀ y ∈ ys, P y
  | [], _ => by
    refine Co.ret ⟨rfl, fun y hy => ?_⟩
    cases hy
  | x :: xs, h => by
    have i := co_mapP xs fun y hy => h y (List.mem_cons_of_mem _ hy)
    unfold mapP
    rw [List.length_cons, Nat.succ_mul, Nat.add_comm]
    refine Co.bind ((h x (List.mem_cons_self ..)).mono fun a ha => ?_)
    have z : Co b (xs.length * n + 0) ((mapP e xs).bind fun rs => Pg.ret (a :: rs)) _ := Co.bind (i.mono fun ys hy => Co.ret (k := fun (ys : List β) => ys.length = xs.length + 1 ∧ ∀ y ∈ ys, P y) ⟨by simp [hy.1], fun y hy' => by
      rcases List.mem_cons.1 hy' with rfl | hy'
      · exact ha
      · exact hy.2 y hy'⟩)
    exact z
theorem co_loop {b : Bool} {n : Nat} {γ : Type} {step : σ → γ → Pg (σ ⊕ α)} {I : Nat → σ → Prop} : ∀ (xs : List γ) (j : Nat) (z : σ), I j z → (∀ j z x, I j z → Co b n (step z x) fun r => ∃ z', r = .inl z' ∧ I (j + 1) z') → Co b (xs.length * n) (loopM step xs z) fun r => ∃ z', r = .inl z' ∧ I (j + xs.length) z'
  | [], j, z, hI, _ => Co.ret ⟨z, rfl, hI⟩
  | x :: xs, j, z, hI, h => by
    unfold loopM
    rw [List.length_cons, Nat.succ_mul, Nat.add_comm (xs.length * n)]
    refine Co.bind ((h j z x hI).mono fun r ⟨z', hr, hI'⟩ => ?_)
    subst hr
    have q := co_loop xs (j + 1) z' hI' h
    rw [show j + (xs.length + 1) = j + 1 + xs.length by omega]
    exact q
end
end DL
namespace DL
section
variable {α σ τ ρ : Type} {Δ : List Sl} {s : SE} {i : Nat} {f : α → D} {xs : List α} {R : τ → Pg ρ}
theorem m_joinJ {p : Pg Out} {m : Pg σ} {K : σ → Pg τ} {G : Out → Pg ρ} (I : σ → List Sl → Prop) (hK : ∀ z Δ', I z Δ' → Ref ((K z).bind R) (G (.nx Δ'))) (h : ∀ (R' : σ → Pg ρ), (∀ z Δ', I z Δ' → Ref (R' z) (G (.nx Δ'))) → Ref (m.bind R') (p.bind G)) : Ref ((m.bind K).bind R) (p.bind G) := by
  rw [bind_assoc]; exact h _ hK
end
end DL
namespace DL
theorem m_stage {τ : Type} {m : Pg τ} {R : τ → Pg Out} {p : Pg Out} (h : Ref (m.bind R) p) : Ref (m.bind R) (p.bind .ret) := by rw [bind_pure]; exact h
end DL
namespace DL
theorem m_go {ρ : Type} {y : Pg ρ} {Δ : List Sl} {S : ST} {G : Out → Pg ρ} (h : Ref y ((S Δ).bind G)) : Ref y ((goOn S (.nx Δ)).bind G) := by rw [goOn_eq]; exact h
theorem m_goR {ρ : Type} {y : Pg ρ} {d : D} {S : ST} {G : Out → Pg ρ} (h : Ref y (G (.rt d))) : Ref y ((goOn S (.rt d)).bind G) := by rw [goOn_eq]; exact h
end DL
namespace DL
end DL
end
section
set_option Elab.async false
set_option linter.all false
set_option maxRecDepth 100000
namespace DL
open PySem L2
section
variable {α ρ τ : Type} [Inhabited α] {Δ : List Sl} {s : SE} {i j : Nat} {f : α → D} {xs ys : List α} {ds es : List D}
omit [Inhabited α] in
end
end DL
namespace DL
section
variable {ρ τ : Type} {Δ : List Sl} {s t r : SE} {A : SA} {T U : SB} {g : D → Option D} {g2 : D → D → Option D} {x y z : D} {F : List D → Pg D}
theorem m_callA {y : Pg ρ} {G : D → Pg ρ} (h : Ref y ((A Δ).bind fun ds => (F ds).bind G)) : Ref y ((cCall F A Δ).bind G) := by
  have e : (cCall F A Δ).bind G = (A Δ).bind fun ds => (F ds).bind G := bind_assoc _ _ _
  rw [e]; exact h
theorem hC_c1_0 : c1 g s Δ = (s Δ).bind fun d => c1 g (fun _ => .ret d) Δ := rfl
theorem hC_c2_0 : c2 g2 s t Δ = (s Δ).bind fun d => c2 g2 (fun _ => .ret d) t Δ := rfl
theorem hC_c2_1 : c2 g2 (fun _ => .ret x) t Δ = (t Δ).bind fun d => c2 g2 (fun _ => .ret x) (fun _ => .ret d) Δ := rfl
theorem hC_cL_0 : cL A Δ = (A Δ).bind fun d => cL (fun _ => .ret d) Δ := rfl
theorem hC_tB_0 : tB s Δ = (s Δ).bind fun d => tB (fun _ => .ret d) Δ := rfl
theorem hC_aRg1_0 : aRg1 s Δ = (s Δ).bind fun d => aRg1 (fun _ => .ret d) Δ := rfl
end
end DL
end
section
set_option Elab.async false
set_option linter.all false
set_option maxRecDepth 100000
/-! two defs that stand in most laws: the same, and tuples for lists -/
namespace DL
open PySem L2
local macro_rules | `(tactic| tm_at "dp") => `(tactic| simp only [outP_rt, outP_nx, bind_draw, intOf_e, ownL_z, ownL_s, xApp_e, xPop_e, bind_ret, bind_fail, ofO_some, cVar_z, cVar_s, cVw_z, cVw_w, cVw_o, cVw_s, cC_e, c1_e, c2_e, aN_e, aC_e, cL_e, cCall_e, cMk_e, cIf_e, tB_e, tT_e, tNot_e, tAnd_e, tOr_e, eAnd_e, eOr_e, cNot_e, toB_e, truO_bl, cTup_e, aL_e, cProp_e, cOwn_e, cOwnIn_e, aLc_e, aIt_e, aSort_e, aRg1_e, aZip_e, aEnum_e, aList_e, tSeq_e, tNil_e, tRet_e, tIf_e, tSet_e, oV_e, oL_e, xE_e, tX_e, tAsg_e, tFor_e, tFrz_e, tPar_e, ite_t, ite_f, List.set_cons_zero, List.set_cons_succ, Bool.not_true, Bool.not_false, List.append_nil, ↓reduceIte, wipeS, Bool.and_self, List.cons_append, List.nil_append, Bool.false_eq_true, *])
def B_same (R : List D → Pg D) : ST := (DL.tSeq (DL.tIf (tT (cIsiT (cVar 1) (aC (cC (.ty "list")) (aC (cC (.ty "tuple")) aN)))) (DL.tSeq (DL.tIf (tOr (tB (c2 (eqO true) (c2 isiO (cVar 0) (cC (.ty "list"))) (c2 isiO (cVar 1) (cC (.ty "list"))))) (tB (c2 (eqO true) (c2 isiO (cVar 0) (cC (.ty "tuple"))) (c2 isiO (cVar 1) (cC (.ty "tuple")))))) (DL.tRet (cC (.bl false))) DL.tNil) (DL.tRet (eAnd (c2 (eqO false) (c1 lenO' (cVw 0)) (c1 lenO' (cVw 1))) (c1 allO (cL (aLc (.tp [(.nm 2), (.nm 3)]) [2, 3] (aZip (cVar 0) (cVar 1)) DL.tYes (cCall R (aC (cVar 2) (aC (cVar 3) aN))))))))) DL.tNil) (DL.tSeq (DL.tIf (tOr (tB (c1 (nonO false) (cVar 1))) (tT (cIsiT (cVar 1) (aC (cC (.ty "bool")) (aC (cC (.ty "str")) aN))))) (DL.tRet (eAnd (c2 (eqO false) (cVar 0) (cVar 1)) (eAnd (c2 (eqO false) (c2 isiO (cVar 0) (cC (.ty "bool"))) (c2 isiO (cVar 1) (cC (.ty "bool")))) (c2 (eqO false) (c1 (nonO false) (cVar 0)) (c1 (nonO false) (cVar 1)))))) DL.tNil) (DL.tRet (eAnd (c2 isiO (cVar 0) (cC (.ty "int"))) (eAnd (cNot (c2 isiO (cVar 0) (cC (.ty "bool")))) (c2 (eqO false) (cVar 0) (cVar 1)))))))
def F_same : Nat → List D → Pg D
  | 0 => fun _ => .fail
  | n + 1 => runF [] 2 4 (B_same (F_same n))
def B_tup (R : List D → Pg D) : ST := (DL.tRet (cIf (tT (cIsiT (cVar 0) (aC (cC (.ty "list")) (aC (cC (.ty "tuple")) aN)))) (c1 tupO (cL (aLc (.nm 1) [1] (aIt (cVar 0)) DL.tYes (cCall R (aC (cVar 1) aN))))) (cVar 0)))
def F_tup : Nat → List D → Pg D
  | 0 => fun _ => .fail
  | n + 1 => runF [] 1 2 (B_tup (F_tup n))
theorem cIsiT_e {s : SE} {t : SA} {Δ : List Sl} : cIsiT s t Δ = (s Δ).bind fun x => (t Δ).bind fun ds => ofO ((tyD x).bind fun z => (unT ds).bind fun ts => if ts.length ≤ 1000 then (ktAny z ts).map D.bl else none) := rfl
theorem same_non (R : List D → Pg D) : runF [] 2 4 (B_same R) [.non, .non] = .ret (.bl true) := rfl
theorem same_bl (R : List D → Pg D) (c : Bool) : runF [] 2 4 (B_same R) [.bl c, .bl c] = .ret (.bl true) := by cases c <;> rfl
theorem same_int (R : List D → Pg D) (i : Int) : runF [] 2 4 (B_same R) [.int i, .int i] = .ret (.bl true) := by
  have h : decide (i = i) = true := decide_eq_true rfl
  show Pg.ret (D.bl (decide (i = i))) = _
  rw [h]
theorem same_str (R : List D → Pg D) (z : Str) : runF [] 2 4 (B_same R) [.str z, .str z] = .ret (.bl true) := by
  have h : eqO false (.str z) (.str z) = some (.bl true) := by
    show some (D.bl (decide (z = z))) = _
    rw [decide_eq_true rfl]
  show ((((ofO (eqO false (.str z) (.str z))).bind _).bind _).bind _).bind _ = _
  rw [h]
  rfl
theorem zip_self' (ds : List D) : zipD ds ds = ds.map fun d => .tup [d, d] := zip_self ds
theorem same_row (R : List D → Pg D) (ds : List D) (x : D) (hx : x = .lst ds ∨ x = .tup ds) (hl : ds.length ≤ lim) (h : ∀ d ∈ ds, R [d, d] = .ret (.bl true)) : runF [] 2 4 (B_same R) [x, x] = .ret (.bl true) := by
  refine (runF_at [.v x, .v x, .e, .e] rfl rfl).trans ?_
  have e1 : ((tyD x).bind fun z => (unT [.ty "list", .ty "tuple"]).bind fun ts => if ts.length ≤ 1000 then (ktAny z ts).map D.bl else none) = some (.bl true) := by rcases hx with rfl | rfl <;> rfl
  have e2 : ∃ c, isiO x (.ty "list") = some (.bl c) := by rcases hx with rfl | rfl <;> exact ⟨_, rfl⟩
  have e3 : ∃ c, isiO x (.ty "tuple") = some (.bl c) := by rcases hx with rfl | rfl <;> exact ⟨_, rfl⟩
  obtain ⟨c2, e2⟩ := e2
  obtain ⟨c3, e3⟩ := e3
  have e4 : ∀ c : Bool, eqO true (.bl c) (.bl c) = some (.bl false) := fun c => by cases c <;> rfl
  have e5 : lenO' x = some (.int ds.length) := by rcases hx with rfl | rfl <;> rfl
  have e6 : eqO false (.int ds.length) (.int ds.length) = some (.bl true) := by
    show some (D.bl (decide ((ds.length : Int) = ds.length))) = _
    rw [decide_eq_true rfl]
  have e7 : zip2 x x = some (ds.map fun d => .tup [d, d]) := by rw [← zip_self']; rcases hx with rfl | rfl <;> rfl
  have e8 : (ds.map fun d => D.tup [d, d]).length ≤ lim := by rw [List.length_map]; exact hl
  have e9 : lcP (.tp [.nm 2, .nm 3]) DL.tYes (cCall R (aC (cVar 2) (aC (cVar 3) aN))) [.v x, .v x, .e, .e] (ds.map fun d => .tup [d, d]) = .ret ((ds.filter fun _ => true).map fun _ => .bl true) :=
    lcP_plain (fun d => .tup [d, d]) (fun _ => true) (fun _ => .bl true) ds fun d hd => ⟨[.v x, .v x, .v d, .v d], rfl, rfl, fun _ => h d hd⟩
  have ea : allO (.lst ((ds.filter fun _ => true).map fun _ => .bl true)) = some (.bl true) := by
    show ((unB ((ds.filter fun _ => true).map fun _ => D.bl true)).map fun ns => D.bl (ns.all id)) = _
    have : ((ds.filter fun _ => true).map fun _ => D.bl true) = ((ds.filter fun _ => true).map fun _ => true).map D.bl := by rw [List.map_map]; rfl
    rw [this, unB_map]
    simp
  have eb := @cIsiT_e
  unfold B_same
  clear hx hl h
  tm_at "dp"
theorem e_same : ∀ (n : Nat) (x : D), Pl n x → F_same (n + 1) [x, x] = .ret (.bl true)
  | n, .non, _ => same_non _
  | n, .bl c, _ => same_bl _ c
  | n, .int i, _ => same_int _ i
  | n, .str z, _ => same_str _ z
  | n + 1, .tup ds, h => by
    unfold Pl at h
    exact same_row _ ds _ (.inr rfl) (by rw [← lim_eq]; exact h.1) fun d hd => e_same n d (h.2 d hd)
  | n + 1, .lst ds, h => by
    unfold Pl at h
    exact same_row _ ds _ (.inl rfl) (by rw [← lim_eq]; exact h.1) fun d hd => e_same n d (h.2 d hd)
  | 0, .tup _, h => by unfold Pl at h; exact h.elim
  | 0, .lst _, h => by unfold Pl at h; exact h.elim
  | _, .ty _, h => by unfold Pl at h; exact h.elim
  | _, .frl _, h => by unfold Pl at h; exact h.elim
  | _, .dct _ _, h => by unfold Pl at h; exact h.elim
  | _, .ins _ _ _, h => by unfold Pl at h; exact h.elim
  | _, .cell _, h => by unfold Pl at h; exact h.elim
def sz1 (xs : List Str) : Prop := xs.length ≤ lim
theorem tup_str (n : Nat) (x : Str) : F_tup (n + 1) [.str x] = .ret (.str x) := rfl
theorem t_tupG {n : Nat} {f g : D → D} (d : D) (ds es : List D) (hd : d = .lst ds ∨ d = .tup ds) (hl : ds.length ≤ lim) (he : ds.length = es.length) (h : ∀ p ∈ ds.zip es, F_tup n [p.1] = .ret p.2) : F_tup (n + 1) [d] = .ret (.tup es) := by
  refine (runF_at [.v d, .e] rfl rfl).trans ?_
  have lc : ∀ (ds es : List D), ds.length = es.length → (∀ p ∈ ds.zip es, F_tup n [p.1] = .ret p.2) → lcP (.nm 1) DL.tYes (cCall (F_tup n) (aC (cVar 1) aN)) [.v d, .e] ds = .ret es := by
    intro ds
    induction ds with
    | nil => intro es he _; cases es with
      | nil => rfl
      | cons _ _ => cases he
    | cons a ds ih =>
      intro es he h
      cases es with
      | nil => cases he
      | cons b es =>
        have h0 : F_tup n [a] = .ret b := h (a, b) (by rw [List.zip_cons_cons]; exact List.mem_cons_self ..)
        have i := ih es (by simpa using he) fun p hp => h p (by rw [List.zip_cons_cons]; exact List.mem_cons_of_mem _ hp)
        show ((F_tup n [a]).bind fun r => (lcP (.nm 1) DL.tYes (cCall (F_tup n) (aC (cVar 1) aN)) [.v d, .e] ds).bind fun rs => .ret (r :: rs)) = _
        rw [h0, i]
        rfl
  have l1 := lc ds es he h
  have it : itO d = some ds := by rcases hd with rfl | rfl <;> rfl
  have tr : (tT (cIsiT (cVar 0) (aC (cC (.ty "list")) (aC (cC (.ty "tuple")) aN)))) [.v d, .e] = .ret true := by rcases hd with rfl | rfl <;> rfl
  unfold B_tup
  have q : (c1 tupO (cL (aLc (.nm 1) [1] (aIt (cVar 0)) DL.tYes (cCall (F_tup n) (aC (cVar 1) aN))))) [.v d, .e] = .ret (.tup es) := by
    refine q_1 (q_cL (ds := es) ?_) rfl
    show (ofO (itO d)).bind _ = _
    rw [it, ofO_some, bind_ret, if_pos hl]
    exact l1
  show ((cIf _ _ _ [.v d, .e]).bind _).bind _ = _
  have z : (cIf (tT (cIsiT (cVar 0) (aC (cC (.ty "list")) (aC (cC (.ty "tuple")) aN)))) (c1 tupO (cL (aLc (.nm 1) [1] (aIt (cVar 0)) DL.tYes (cCall (F_tup n) (aC (cVar 1) aN))))) (cVar 0)) [.v d, .e] = .ret (.tup es) := by
    show ((tT _ _).bind _) = _
    rw [tr, bind_ret]
    exact q
  rw [z]
  rfl
theorem zip_encs {α : Type} (f g : α → D) : ∀ (xs : List α) (p : D × D), p ∈ (xs.map f).zip (xs.map g) → ∃ x ∈ xs, p = (f x, g x)
  | [], p, h => by cases h
  | x :: xs, p, h => by
    rw [List.map_cons, List.map_cons, List.zip_cons_cons] at h
    rcases List.mem_cons.1 h with h | h
    · exact ⟨x, List.mem_cons_self .., h⟩
    · obtain ⟨y, h1, h2⟩ := zip_encs f g xs p h
      exact ⟨y, List.mem_cons_of_mem _ h1, h2⟩
theorem t_tup1 (n : Nat) (d : D) (xs : List Str) (hd : d = .lst (xs.map D.str) ∨ d = .tup (xs.map D.str)) (h : sz1 xs) : F_tup (n + 2) [d] = .ret (eT eS xs) := t_tupG (f := id) (g := id) d _ _ hd (by rw [List.length_map]; exact h) rfl fun p hp => by
  obtain ⟨x, _, rfl⟩ := zip_encs _ _ xs p hp
  exact tup_str n x
theorem t_tupT (xs : List Str) (h : sz1 xs) : F_tup 5 [eT eS xs] = .ret (eT eS (id xs)) := t_tup1 3 _ xs (.inr rfl) h
theorem pl_bl {n : Nat} {i : Bool} : Pl n (.bl i) := by cases n <;> (unfold Pl; trivial)
/-- what the laws want of the two: that they are the same -/
def sameOk (a b : D) : Prop := a = b ∧ Pl 4 a
theorem t_same (a b : D) (h : sameOk a b) : F_same 5 [eD a, eD b] = .ret (eB true) := by
  obtain ⟨rfl, hp⟩ := h
  exact e_same 4 _ hp
end DL
namespace DL
open PySem L2
def sameF (_ _ : D) : Bool := true
section
variable {Δ : List Sl} {A C : SA} {ds es : List D} {d : D} {α : Type} {f : α → D} {xs : List α}
end
end DL
end
section
set_option Elab.async false
set_option linter.all false
set_option maxRecDepth 1000000
/-! the first numbers of the script -/
namespace DL
open PySem L2
local macro_rules | `(tactic| tm_at "dp") => `(tactic| simp only [outP_rt, outP_nx, bind_draw, intOf_e, ownL_z, ownL_s, xApp_e, xPop_e, bind_ret, bind_fail, ofO_some, cVar_z, cVar_s, cVw_z, cVw_w, cVw_o, cVw_s, cC_e, c1_e, c2_e, aN_e, aC_e, cL_e, cCall_e, cMk_e, cIf_e, tB_e, tT_e, tNot_e, tAnd_e, tOr_e, eAnd_e, eOr_e, cNot_e, toB_e, truO_bl, cTup_e, aL_e, cProp_e, cOwn_e, cOwnIn_e, aLc_e, aIt_e, aSort_e, aRg1_e, aZip_e, aEnum_e, aList_e, tSeq_e, tNil_e, tRet_e, tIf_e, tSet_e, oV_e, oL_e, xE_e, tX_e, tAsg_e, tFor_e, tFrz_e, tPar_e, ite_t, ite_f, List.set_cons_zero, List.set_cons_succ, Bool.not_true, Bool.not_false, List.append_nil, ↓reduceIte, wipeS, Bool.and_self, List.cons_append, List.nil_append, Bool.false_eq_true, *])
theorem cutL_len {α : Type} (xs : List α) (lo hi : Option Int) : (cutL xs lo hi).length ≤ xs.length := by
  unfold cutL
  rw [List.length_take, List.length_drop]
  omega
theorem cutL_from {α : Type} {xs : List α} {t : Nat} {hi : Option Int} {j : Nat} {v : α} (h : (cutL xs (some (t : Int)) hi)[j]? = some v) : t < xs.length := by
  have h1 := (List.getElem?_eq_some_iff.mp h).1
  unfold cutL at h1
  rw [List.length_take, List.length_drop] at h1
  have e2 : HT.sIx xs.length 0 (some (t : Int)) = min t xs.length := by
    unfold HT.sIx
    simp
    omega
  rw [e2] at h1
  omega
theorem Co.eq {α : Type} {c : Nat} {p : Pg α} {k : α → Prop} (h : Co false c p k) : ∃ a, p = .ret a ∧ k a := by
  have q := h 0
  cases p with
  | ret a => exact ⟨a, rfl, q.2⟩
  | fail => exact q.elim
  | draw low f => cases q.1
theorem Co.of_eq {α : Type} {b : Bool} {c : Nat} {p : Pg α} {a : α} {k : α → Prop} (e : p = .ret a) (h : k a) : Co b c p k := by rw [e]; exact Co.ret h
theorem ix_lst {α : Type} {f : α → D} {xs : List α} {j : Nat} {x : α} (h : xs[j]? = some x) : ixO (.lst (xs.map f)) (.int (j : Nat)) = some (f x) := by
  show L2.atI (xs.map f) (j : Nat) = _
  exact atI_nat (by rw [List.getElem?_map, h]; rfl)
theorem enum_map' {f : Int → D} {xs : List Int} {j : Nat} {d : D} (h : (enumD (xs.map f))[j]? = some d) : ∃ v, xs[j]? = some v ∧ d = .tup [.int (j : Nat), f v] := by
  unfold enumD at h
  rw [List.getElem?_map, List.getElem?_zipIdx, List.getElem?_map] at h
  cases hx : xs[j]? with
  | none => rw [hx] at h; cases h
  | some v =>
    rw [hx] at h
    refine ⟨v, rfl, ?_⟩
    simp at h
    exact h.symm
theorem ixN_pos' {n : Nat} {i : Int} (h0 : 0 ≤ i) (h1 : i < n) : L2.ixN n i = some i.toNat := by
  unfold L2.ixN
  rw [if_pos h0, if_pos h1]
end DL
namespace DL
open PySem L2
end DL
end
section
set_option Elab.async false
set_option linter.all false
/-! plain: dicts as lists of pairs, sums -/
namespace DL
open PySem L2
section
variable {α : Type}
theorem kget_map {m : List (Str × α)} {k : Str} {v : α} (x : Str) : kget (m.map fun p => if p.1 = k then (p.1, v) else p) x = if x = k then (kget m x).map (fun _ => v) else kget m x := by
  induction m with
  | nil => simp [kget]
  | cons p m ih =>
    rw [List.map_cons]
    unfold kget
    rw [ih]
    by_cases h1 : p.1 = k
    · by_cases h2 : x = k
      · simp [h1, h2]
      · have : ¬ k = x := fun z => h2 z.symm
        simp [h1, h2, this]
    · by_cases h2 : x = k
      · have : ¬ p.1 = x := fun z => h1 (z.trans h2)
        simp [h1, this, h2]
      · by_cases h3 : p.1 = x <;> simp [h1, h2, h3]
theorem kget_app {m n : List (Str × α)} (x : Str) : kget (m ++ n) x = (kget m x).or (kget n x) := by
  induction m with
  | nil => simp [kget]
  | cons p m ih =>
    rw [List.cons_append]
    by_cases h : p.1 = x
    · simp [kget, h]
    · simp only [kget, h, if_false]; exact ih
theorem any_kget {m : List (Str × α)} {k : Str} : (m.any fun p => decide (p.1 = k)) = (kget m k).isSome := by
  induction m with
  | nil => rfl
  | cons p m ih =>
    rw [List.any_cons, ih]
    by_cases h : p.1 = k
    · simp [kget, h]
    · simp [kget, h]
theorem kget_kput {m : List (Str × α)} {k : Str} {v : α} (x : Str) : kget (kput m k v) x = if x = k then some v else kget m x := by
  unfold kput
  rw [any_kget]
  split
  · rename_i h
    rw [kget_map]
    by_cases e : x = k
    · subst e
      obtain ⟨w, hw⟩ := Option.isSome_iff_exists.mp h
      simp [hw]
    · simp [e]
  · rename_i h
    rw [kget_app]
    by_cases e : x = k
    · subst e
      have : kget m x = none := by simpa using h
      simp [this, kget]
    · have : ¬ k = x := fun z => e z.symm
      simp [e, kget, this]
theorem keys_kput {m : List (Str × α)} {k : Str} {v : α} : (kput m k v).map (·.1) = if (kget m k).isSome = true then m.map (·.1) else m.map (·.1) ++ [k] := by
  unfold kput
  rw [any_kget]
  split
  · rw [List.map_map]
    refine List.map_congr_left fun p _ => ?_
    show (if p.1 = k then (p.1, v) else p).1 = p.1
    split <;> rfl
  · simp
theorem mem_keys {m : List (Str × α)} {x : Str} : x ∈ m.map (·.1) ↔ (kget m x).isSome = true := by
  induction m with
  | nil => simp [kget]
  | cons p m ih =>
    rw [List.map_cons, List.mem_cons, ih]
    by_cases h : p.1 = x
    · simp [kget, h]
    · have : ¬ x = p.1 := fun z => h z.symm
      simp [kget, h, this]
theorem nodup_kput {m : List (Str × α)} {k : Str} {v : α} (h : (m.map (·.1)).Nodup) : ((kput m k v).map (·.1)).Nodup := by
  rw [keys_kput]
  split
  · exact h
  · rename_i hn
    refine List.nodup_append.mpr ⟨h, by simp, ?_⟩
    intro a ha b hb e
    rw [List.mem_singleton] at hb
    subst hb e
    exact hn (mem_keys.mp ha)
/-- what a dict comprehension makes -/
def dcm (xs : List Str) (f : Str → α) (m : List (Str × α)) : List (Str × α) := xs.foldl (fun m y => kput m y (f y)) m
theorem kget_dcm {f : Str → α} (x : Str) : ∀ (xs : List Str) (m : List (Str × α)), kget (dcm xs f m) x = if x ∈ xs then some (f x) else kget m x
  | [], m => by simp [dcm]
  | y :: xs, m => by
    show kget (dcm xs f (kput m y (f y))) x = _
    rw [kget_dcm x xs, kget_kput]
    by_cases h1 : x ∈ xs
    · simp [h1]
    · by_cases h2 : x = y
      · subst h2; simp
      · simp [h1, h2]
theorem nodup_dcm {f : Str → α} : ∀ (xs : List Str) (m : List (Str × α)), (m.map (·.1)).Nodup → ((dcm xs f m).map (·.1)).Nodup
  | [], m, h => h
  | y :: xs, m, h => nodup_dcm xs _ (nodup_kput h)
theorem len_kput {m : List (Str × α)} {k : Str} {v : α} : (kput m k v).length ≤ m.length + 1 := by
  unfold kput
  split <;> simp
theorem len_dcm {f : Str → α} : ∀ (xs : List Str) (m : List (Str × α)), (dcm xs f m).length ≤ m.length + xs.length
  | [], m => by simp [dcm]
  | y :: xs, m => by
    have h := len_dcm xs (kput m y (f y)) (f := f)
    have h2 := len_kput (m := m) (k := y) (v := f y)
    show (dcm xs f (kput m y (f y))).length ≤ _
    rw [List.length_cons]
    omega
end
/-! sums -/
theorem sum_perm {xs ys : List Int} (h : xs.Perm ys) : xs.sum = ys.sum := by
  induction h with
  | nil => rfl
  | cons a _ ih => simp [ih]
  | swap a b l => simp; omega
  | trans _ _ i1 i2 => exact i1.trans i2
/-- only those that count -/
theorem sum_filter {α : Type} {f : α → Int} {p : α → Bool} : ∀ (xs : List α), (∀ x ∈ xs, p x = false → f x = 0) → ((xs.filter p).map f).sum = (xs.map f).sum
  | [], _ => rfl
  | x :: xs, h => by
    have i := sum_filter xs fun y hy => h y (List.mem_cons_of_mem _ hy)
    cases hp : p x with
    | true => rw [List.filter_cons_of_pos hp]; simp [i]
    | false => rw [List.filter_cons_of_neg (by simp [hp])]; simp [i, h x (List.mem_cons_self ..) hp]
theorem filter_nodup {α : Type} {p : α → Bool} {xs : List α} (h : xs.Nodup) : (xs.filter p).Nodup := h.sublist List.filter_sublist
theorem perm_of {α : Type} {xs ys : List α} (hx : xs.Nodup) (hy : ys.Nodup) (h : ∀ a, a ∈ xs ↔ a ∈ ys) : xs.Perm ys := (List.perm_ext_iff_of_nodup hx hy).mpr h
theorem len_rngI {lo : Int} {n : Nat} : (rngI lo n).length = n := by unfold rngI; simp
theorem atI_nat' {α : Type} {xs : List α} {j : Nat} : atI xs (j : Int) = xs[j]? := by
  unfold atI ixN
  by_cases h : j < xs.length
  · rw [if_pos (by omega), if_pos (by omega)]; simp
  · rw [if_pos (by omega), if_neg (by omega), List.getElem?_eq_none (by omega)]; rfl
theorem ixD_nat {α : Type} [Inhabited α] {xs : List α} {j : Nat} {x : α} (h : xs[j]? = some x) : ixD xs (j : Int) = x := by
  unfold ixD; rw [atI_nat', h]; rfl
theorem atI_last {α : Type} {xs : List α} {x : α} : atI (xs ++ [x]) (-1) = some x := by
  unfold atI ixN
  rw [if_neg (by decide), if_pos (by rw [List.length_append, List.length_singleton]; omega)]
  show (xs ++ [x])[((-1 : Int) + ((xs ++ [x]).length : Int)).toNat]? = _
  rw [List.length_append, List.length_singleton, show ((-1 : Int) + ((xs.length + 1 : Nat) : Int)).toNat = xs.length by omega, List.getElem?_append_right (Nat.le_refl _), Nat.sub_self]
  rfl
theorem ixD_last {α : Type} [Inhabited α] {xs : List α} {x : α} : ixD (xs ++ [x]) (-1) = x := by unfold ixD; rw [atI_last]; rfl
end DL
end
section
set_option Elab.async false
set_option linter.all false
/-! plain: the draws that stand in most laws -/
namespace DL
open PySem L2
section
variable {α τ : Type} [Inhabited α]
theorem lim_le {n : Nat} (h : n ≤ 100000) : n ≤ lim := Nat.le_trans h (by decide)
theorem co_one {u : Unit} {xs : List α} (h0 : xs ≠ []) (h1 : xs.length ≤ 1000) : Co true 1 ((drawI u (xs.length : Int)).bind fun b => asr ((atI xs b).isSome = true) (.ret (ixD xs b))) fun x => x ∈ xs := by
  have hp : 0 < xs.length := List.length_pos_iff.mpr h0
  have q : Co true (1 + 0) ((drawI u (xs.length : Int)).bind fun b => asr ((atI xs b).isSome = true) (.ret (ixD xs b))) fun x => x ∈ xs := Co.bind (co_drawI (by omega) (by omega) fun d d0 d1 => by
    obtain ⟨k, rfl⟩ := Int.eq_ofNat_of_zero_le d0
    have hk : k < xs.length := by omega
    have hk2 := List.getElem?_eq_getElem hk
    refine Co.asr (by rw [atI_nat', hk2]; rfl) (Co.ret ?_)
    rw [ixD_nat hk2]
    exact List.getElem_mem hk)
  exact q
omit [Inhabited α] in
omit [Inhabited α] in
omit [Inhabited α] in
end
end DL
end
section
set_option Elab.async false
set_option linter.all false
/-! two at once, drawn -/
namespace DL
open PySem L2
theorem m_par {ρ : Type} {Δ : List Sl} {s t : SE} {i j : Nat} {y : Pg ρ} {G : Out → Pg ρ} (h : Ref y ((s Δ).bind fun d => (t Δ).bind fun c => G (.nx ((Δ.set i (.v d)).set j (.v c))))) : Ref y ((tPar i j (oV s) (oV t) Δ).bind G) := by
  have e : (tPar i j (oV s) (oV t) Δ).bind G = (s Δ).bind fun d => (t Δ).bind fun c => G (.nx ((Δ.set i (.v d)).set j (.v c))) := by
    show (((s Δ).bind fun d => .ret (Sl.v d)).bind fun d => ((t Δ).bind fun c => .ret (Sl.v c)).bind fun c => .ret (.nx ((Δ.set i d).set j c))).bind G = _
    rw [bind_assoc, bind_assoc]
    congr 1
    funext d
    rw [bind_ret, bind_assoc, bind_assoc]
    rfl
  rw [e]; exact h
end DL
end
section
set_option Elab.async false
set_option linter.all false
set_option maxRecDepth 100000
/-! TYi: typed readings, more: coercions, classes, loops that return early -/
namespace DL
open PySem L2
instance : Inhabited D := ⟨.non⟩
/-! ### what a datum is read as -/
class Inj {α : Type} (e : α → D) : Prop where
  inj : ∀ a b, e a = e b → a = b
/-- never None -/
class NonN {α : Type} (e : α → D) : Prop where
  nn : ∀ a, e a ≠ .non
section
variable {α β γ : Type} {e : α → D} {f : α → D} {g : β → D} {k : γ → D}
instance : Inj eI := ⟨fun a b h => by cases h; rfl⟩
instance : Inj eB := ⟨fun a b h => by cases h; rfl⟩
instance : Inj eS := ⟨fun a b h => by cases h; rfl⟩
theorem map_inj [i : Inj f] : ∀ {xs ys : List α}, xs.map f = ys.map f → xs = ys
  | [], [], _ => rfl
  | [], _ :: _, h => by cases h
  | _ :: _, [], h => by cases h
  | x :: xs, y :: ys, h => by
    rw [List.map_cons, List.map_cons] at h
    injection h with h1 h2
    rw [i.inj _ _ h1, map_inj h2]
instance [Inj f] : Inj (eT f) := ⟨fun a b h => by unfold eT at h; injection h with h; exact map_inj h⟩
instance [Inj f] : Inj (eL f) := ⟨fun a b h => by unfold eL at h; injection h with h; exact map_inj h⟩
instance [i : Inj f] [j : Inj g] : Inj (e2 f g) := ⟨fun a b h => by
  obtain ⟨a1, a2⟩ := a
  obtain ⟨b1, b2⟩ := b
  unfold e2 at h
  injection h with h
  injection h with h1 h2
  injection h2 with h2
  exact Prod.ext (i.inj _ _ h1) (j.inj _ _ h2)⟩
instance [i : Inj f] [j : Inj g] [l : Inj k] : Inj (e3 f g k) := ⟨fun a b h => by
  obtain ⟨a1, a2, a3⟩ := a
  obtain ⟨b1, b2, b3⟩ := b
  unfold e3 at h
  injection h with h
  injection h with h1 h2
  injection h2 with h2 h3
  injection h3 with h3
  exact Prod.ext (i.inj _ _ h1) (Prod.ext (j.inj _ _ h2) (l.inj _ _ h3))⟩
instance : NonN eI := ⟨fun a h => nomatch h⟩
instance : NonN eS := ⟨fun a h => nomatch h⟩
instance : NonN eB := ⟨fun a h => nomatch h⟩
instance : NonN (eT f) := ⟨fun a h => nomatch h⟩
instance : NonN (eL f) := ⟨fun a h => nomatch h⟩
instance : NonN (e2 f g) := ⟨fun a h => nomatch h⟩
instance : NonN (e3 f g k) := ⟨fun a h => nomatch h⟩
instance [i : Inj f] [n : NonN f] : Inj (eO f) := ⟨fun a b h => by
  cases a with
  | none => cases b with
    | none => rfl
    | some y => exact absurd (show f y = .non from h.symm) (n.nn y)
  | some x => cases b with
    | none => exact absurd (show f x = .non from h) (n.nn x)
    | some y => rw [i.inj x y h]⟩
end
section
variable {Δ : List Sl} {s t r : SE} {i j : Nat} {d e c : D} {ds es : List D} {A : SA} {T U : SB} {α β δ : Type} {f : α → D} {g : β → D} {xs ys : List α}
theorem o_leI2 {a b : Int} : coO2 .LtE (.int a) (.int b) = some (.bl (decide (a ≤ b))) := rfl
theorem o_gtI2 {a b : Int} : coO2 .Gt (.int a) (.int b) = some (.bl (decide (b < a))) := rfl
/-! in -/
/-! args -/
def p2l (p : Str × Str) : List Str := [p.1, p.2]
def l2p (l : List Str) : Str × Str := (l.headD "", (l.drop 1).headD "")
def ssP (xs : List (Str × Str)) : List (Str × Str) := (ssX (xs.map p2l)).map l2p
theorem q_sortI2 {zs : List Int} (hs : s Δ = .ret (eL D.int zs)) : aSort2 s Δ = .ret ((sortI zs).map eI) := by
  show (s Δ).bind _ = _
  rw [hs]
  show ofO (srtO2 (zs.map D.int)) = _
  unfold srtO2
  rw [unI_map]; rfl
/-! classes -/
end
/-! ### statements: Q v of what comes out -/
section
variable {Δ Δ1 : List Sl} {s : SE} {i : Nat} {d : D} {ds : List D} {A : SA} {T : SB} {α β σ ρ : Type} {f : β → D} {S S1 S2 S3 : ST} {Q : ρ → Pg Out → Prop} {v w : ρ}
def RetQ (f : β → D) (v : β) (p : Pg Out) : Prop := p = .ret (.rt (f v))
theorem y_ret (hs : s Δ = .ret d) (h : Q v (.ret (.rt d))) : Q v (DL.tRet s Δ) := by rw [z_ret hs]; exact h
theorem y_seq (h1 : S1 Δ = .ret (.nx Δ1)) (h2 : Q v (S2 Δ1)) : Q v (DL.tSeq S1 S2 Δ) := by
  rw [z_seq h1 rfl]; exact h2
theorem y_seqret (hs : s Δ = .ret d) (h : Q v (.ret (.rt d))) : Q v (DL.tSeq (DL.tRet s) S2 Δ) := by
  rw [z_seqr (z_ret hs)]; exact h
theorem y_seqif {b : Bool} (ht : T Δ = .ret b) (h1 : b = true → Q v (DL.tSeq S1 S Δ)) (h2 : b = false → Q w (DL.tSeq S2 S Δ)) : Q (if b = true then v else w) (DL.tSeq (DL.tIf T S1 S2) S Δ) := by
  have e : DL.tSeq (DL.tIf T S1 S2) S Δ = if b = true then DL.tSeq S1 S Δ else DL.tSeq S2 S Δ := by
    show ((T Δ).bind _).bind _ = _
    rw [ht]
    cases b <;> rfl
  rw [e]
  cases b with
  | true => exact h1 rfl
  | false => exact h2 rfl
theorem y_seqnil (h : Q v (S Δ)) : Q v (DL.tSeq DL.tNil S Δ) := h
/-! loops -/
def loopP (step : σ → α → σ ⊕ β) : List α → σ → σ ⊕ β
  | [], z => .inl z
  | x :: xs, z => match step z x with
    | .inl z' => loopP step xs z'
    | .inr r => .inr r
end
section
variable {ρ τ : Type} {Δ : List Sl} {s t : SE} {A B : SA} {i j : Nat}
theorem m_tgB {tg : Tg} {body : ST} {d : D} {Δ1 : List Sl} {y : Pg ρ} {G : Out → Pg ρ} (h : tgS tg d Δ = some Δ1) (hg : Ref y ((body Δ1).bind G)) : Ref y (((ofO (tgS tg d Δ)).bind body).bind G) := by
  rw [h]; exact hg
end
end DL
end
section
set_option Elab.async false
set_option linter.all false
set_option maxRecDepth 100000
/-! k75: whether a node stays, by hand -/
namespace Q75
open PySem L2 DL
def endsR (m : List (Str × Option Int)) (row : List Str) : List Int := (row.dropLast.filter fun y => !((kget m y).getD default).isNone).map fun y => ((kget m y).getD default).getD 0
def endsF (s : Sta) (row : List Str) : Bool := if (!decide (ixD row (-1 : Int) ∈ s.2)) = true then false else ((enumL (sortI (endsR s.1 row))).map fun p => decide (p.1 < p.2)).all id
def endsOk (s : Sta) (row : List Str) : Prop := row ≠ [] ∧ row.length ≤ 64 ∧ ∀ y ∈ row.dropLast, (kget s.1 y).isSome = true
theorem eO_some {o : Option Int} (h : (!o.isNone) = true) : eO eI o = eI (o.getD 0) := by
  cases o with
  | none => cases h
  | some i => rfl
theorem at_last {row : List Str} (h : row ≠ []) : (atI row (-1 : Int)).isSome = true := by
  rw [← List.dropLast_concat_getLast h, DL.atI_last]
  rfl
theorem u_ends (s : Sta) (row : List Str) (h : endsOk s row) : F__law_ends [eSta s, eT eS row] = .ret (eB (endsF s row)) := by
  obtain ⟨h1, h2, h3⟩ := h
  have l1 : row.dropLast.length ≤ lim := by rw [List.length_dropLast, lim]; omega
  refine (runF_at [.v (eSta s), .v (eT eS row), .e, .e, .e, .e, .e] rfl rfl).trans ?_
  unfold B__law_ends
  have q : ∀ y ∈ row.dropLast, ∀ Δ : List Sl, Δ[2]? = some (.v (eM (eO eI) s.1)) → Δ[5]? = some (.v (eS y)) → c2 dixO (cVar 2) (cVar 5) Δ = .ret (eO eI ((kget s.1 y).getD default)) := fun y hy Δ e1 e2 => q_2 (q_var e1) (q_var e2) (o_dix (h3 y hy))
  have l2 : (enumL (sortI (endsR s.1 row))).length ≤ lim := by
    unfold enumL
    rw [List.length_map, List.length_zipIdx, (sortI_perm _).length_eq]
    unfold endsR
    rw [List.length_map]
    exact Nat.le_trans (List.length_filter_le _ _) l1
  have r : (DL.tSeq (DL.tAsg (.tp [(.nm 2), (.nm 3)]) (xE (cVar 0))) (DL.tSeq (DL.tIf (tB (c2 (inO true) (c2 ixO (cVw 1) (c1 negO (cC (.int 1)))) (cVw 3))) (DL.tRet (cC (.bl false))) DL.tNil) (DL.tSeq (tSet 4 (oV (cL (aSort2 (cL (aLc (.nm 5) [5] (aIt (c2 sl01 (cVw 1) (c1 negO (cC (.int 1))))) (tB (c1 (nonO true) (c2 dixO (cVar 2) (cVar 5)))) (c2 dixO (cVar 2) (cVar 5)))))))) (DL.tRet (c1 allO (cL (aLc (.tp [(.nm 6), (.nm 5)]) [6, 5] (aEnumA (cVar 4)) DL.tYes (c2 (coO2 .Gt) (cVar 5) (cVar 6))))))))) [.v (eSta s), .v (eT eS row), .e, .e, .e, .e, .e] = .ret (.rt (eB (endsF s row))) := by
    refine z_seq (Δ1 := [.v (eSta s), .v (eT eS row), .v (eM (eO eI) s.1), .v (eL eS s.2), .e, .e, .e]) (z_asg (q_var rfl) rfl) ?_
    unfold endsF
    refine z_ifre (Δ := [.v (eSta s), .v (eT eS row), .v (eM (eO eI) s.1), .v (eL eS s.2), .e, .e, .e]) (f := eB) (b := (!decide (ixD row (-1 : Int) ∈ s.2))) (x := false) (y := ((enumL (sortI (endsR s.1 row))).map fun p => decide (p.1 < p.2)).all id) (q_tB (q_2 (d := eS (ixD row (-1 : Int))) (e := eL eS s.2) (q_2 (d := eT eS row) (e := .int (-1)) (q_vw rfl) (q_1 q_C o_negI) (o_ixTD (at_last h1))) (q_vw (i := 3) rfl) o_ninSL)) (fun _ => z_ret q_C) (fun _ => ?_)
    refine z_seq (Δ1 := [.v (eSta s), .v (eT eS row), .v (eM (eO eI) s.1), .v (eL eS s.2), .v (eL eI (sortI (endsR s.1 row))), .e, .e]) (z_setO (o_v (q_cL (q_sortI2 (q_cLL (q_lc (f := eS) (g := eI) (p := fun y => !((kget s.1 y).getD default).isNone) (v := fun y => ((kget s.1 y).getD default).getD 0) (q_itT (q_2 (q_vw rfl) (q_1 q_C o_negI) o_cutLastT)) l1 fun y hy => ⟨_, rfl, ?_, fun e => ?_⟩)))))) ?_
    · exact q_tB (q_1 (q y hy _ rfl rfl) (o_nonO fun x => rfl))
    · rw [q y hy _ rfl rfl, eO_some e]
    · exact z_ret (q_1 (q_cLL (q_lc0 (f := e2 eI eI) (g := eB) (v := fun p : Int × Int => decide (p.1 < p.2)) (q_enumL (q_var rfl)) l2 fun p hp => ⟨_, rfl, q_2 (q_var rfl) (q_var rfl) o_gtI2⟩)) o_all)
  rw [r]
  rfl
end Q75
end
section
set_option Elab.async false
set_option linter.all false
set_option maxRecDepth 100000
/-! the package's defs as programs -/
namespace Pk
open PySem L2 DL
def B_tupled (R : List D → Pg D) : ST := (tRet (cIf (tT (cIsiTC [0] (cVar 0) (aC (cC (.ty "list")) (aC (cC (.ty "tuple")) aN)))) (c1 tupO (cL (aLc (.nm 1) [1] (aIt (cVar 0)) tYes (cCall R (aC (cVar 1) aN))))) (cVar 0)))
def F_tupled : Nat → List D → Pg D
  | 0 => fun _ => .fail
  | n + 1 => runF [] 1 2 (B_tupled (F_tupled n))
def B_is_name : ST := (tSeq (tIf (tOr (tNot (tT (c2 isiO (cVar 0) (cC (.ty "str"))))) (tNot (tB (cCh .Lt .LtE (cC (.int 0)) (c1 lenO' (cVw 0)) (cC (.int 8)))))) (tRet (cC (.bl false))) tNil) (tRet (c1 allO (cL (aLc (.nm 1) [1] (aIt (cVar 0)) tYes (c2 (inO false) (cVar 1) (cC (.str "abcdefghijklmnopqrstuvwxyz"))))))))
def F_is_name : List D → Pg D := runF [] 1 2 B_is_name
end Pk
end
section
set_option Elab.async false
set_option linter.all false
set_option maxRecDepth 100000
set_option maxHeartbeats 1000000
namespace Pk
open PySem DL L2
abbrev Room := Option Int
abbrev Ent := Str × Option Str × Room
abbrev Form := List Ent × Bool × Room
structure Lab where
  names : List Str
  rest : Bool
  deriving Inhabited
structure Stp where
  kind : Str
  what : D
structure Pipe where
  steps : List Stp
  form : Form
instance : Inhabited Stp := ⟨⟨default, .non⟩⟩
instance : Inhabited Pipe := ⟨⟨[], default⟩⟩
def eLab (l : Lab) : D := .ins 1 ["own_names", "own_rest"] [eT eS l.names, eB l.rest]
def eStp (s : Stp) : D := .ins 2 ["own_kind", "own_what"] [eS s.kind, s.what]
instance : Inj eLab := ⟨fun a b h => by
  obtain ⟨a1, a2⟩ := a
  obtain ⟨b1, b2⟩ := b
  unfold eLab at h
  injection h with _ _ h
  injection h with h1 h2
  injection h2 with h2
  have h3 := (inferInstance : Inj (eT eS)).inj _ _ h1
  have h4 := (inferInstance : Inj eB).inj _ _ h2
  cases h3; cases h4; rfl⟩
instance : Inj eStp := ⟨fun a b h => by
  obtain ⟨a1, a2⟩ := a
  obtain ⟨b1, b2⟩ := b
  unfold eStp at h
  injection h with _ _ h
  injection h with h1 h2
  injection h2 with h2
  have h3 := (inferInstance : Inj eS).inj _ _ h1
  cases h3
  have h4 : a2 = b2 := h2
  cases h4; rfl⟩
noncomputable def f_entry_in_1 (v1 : Str) (z : Unit) (x : (Str × (Option Str) × (Option Int))) : (Unit ⊕ ((Option Str) × (Option Int))) := (if (decide (x.1 = v1)) = true then (Sum.inr (x.2.1, x.2.2)) else (Sum.inl ()))
noncomputable def f_entry_in (form : Form) (name : Str) : ((Option Str) × (Option Int)) := (Sum.elim (fun (z5 : Unit) => ((if form.2.1 = true then (some name) else (none : (Option Str))), form.2.2)) (fun (r6 : ((Option Str) × (Option Int))) => r6) (loopP (f_entry_in_1 name) form.1 ()))
noncomputable def f_height_in_1 (v3 : (List (Option Int))) : (Option Int) := (if (decide ((0 : Int) < (v3.length : Int))) = true then (ixD v3 (0 : Int)) else (some (0 : Int)))
noncomputable def f_height_in (form : Form) : (Option Int) := (if form.2.1 = true then form.2.2 else (f_height_in_1 ((form.1.filter fun (y13 : (Str × (Option Str) × (Option Int))) => (!y13.2.1.isNone)).map fun (y13 : (Str × (Option Str) × (Option Int))) => y13.2.2)))
end Pk
end
section
set_option Elab.async false
set_option linter.all false
set_option maxRecDepth 100000
set_option maxHeartbeats 1000000
/-! the makers of Step and Pipeline, typed by hand -/
namespace Pk
open PySem DL L2
abbrev ePs : List (Str × Str) → D := eT (e2 eS eS)
abbrev ePl : List (Str × Str) → D := eL (e2 eS eS)
/-- what a Step is of -/
inductive StD : Str → D → D → Prop where
  | cut (n : Int) (h : 1 ≤ n) : StD "cut" (.int n) (.int n)
  | lab (k : Str) (l : Lab) (h : k = "drop" ∨ k = "unwrap") : StD k (eLab l) (eLab l)
  | ren (d : D) (ps : List (Str × Str)) (hd : d = ePl ps ∨ d = ePs ps) (hl : ps.length < 64) (hn : (ps.map fun p => p.1).Nodup) : StD "rename" d (ePs (ssP (ps.filter fun p => !decide (p.1 = p.2))))
theorem StD.one {k : Str} {d e e' : D} (h : StD k d e) (h' : StD k d e') : e = e' := by
  cases h with
  | cut n _ =>
    generalize hk : (Str.ofString "cut") = kk at h'
    generalize hd : (D.int n) = dd at h'
    cases h' with
    | cut m _ => cases hd; rfl
    | lab _ l hl => cases hd
    | ren d ps hps => 
      rcases hps with rfl | rfl <;> cases hd
  | lab k l hk =>
    generalize hd : eLab l = dd at h'
    cases h' with
    | cut m _ => cases hd
    | lab _ l' hl => exact hd.symm ▸ rfl
    | ren d ps hps =>
      rcases hps with rfl | rfl <;> cases hd
  | ren d ps hd =>
    generalize hk : (Str.ofString "rename") = kk at h'
    cases h' with
    | cut m _ => rcases hd with hd | hd <;> cases hd
    | lab _ l hl => rcases hd with hd | hd <;> cases hd
    | ren d ps' hd' =>
      have : ps = ps' := by
        rcases hd with rfl | rfl
        · rcases hd' with h | h
          · exact (inferInstance : Inj ePl).inj _ _ h
          · cases h
        · rcases hd' with h | h
          · cases h
          · exact (inferInstance : Inj ePs).inj _ _ h
      rw [this]
/-! Pipeline -/
end Pk
end
section
set_option Elab.async false
set_option linter.all false
set_option maxRecDepth 100000
set_option maxHeartbeats 1000000
namespace Q75
open PySem DL L2
theorem same_eq : ∀ n, F__law_same n = F_same n
  | 0 => rfl
  | n + 1 => by
    show runF [] 2 4 (B__law_same (F__law_same n)) = _
    rw [same_eq n]
    rfl
theorem tup_eq : ∀ n, F_tupled n = F_tup n
  | 0 => rfl
  | n + 1 => by
    show runF [] 1 2 (B_tupled (F_tupled n)) = _
    rw [tup_eq n]
    rfl
theorem u_tupT (xs : List Str) (h : sz1 xs) : F_tupled 5 [eT eS xs] = .ret (eT eS (id xs)) := by rw [tup_eq]; exact t_tupT xs h
theorem u_same (a b : D) (h : sameOk a b) : F__law_same 5 [eD a, eD b] = .ret (eB (sameF a b)) := by rw [same_eq]; exact t_same a b h
noncomputable def f_often_above (path : (List Str)) : (List (Str × Int)) := ((path.dropLast.filter fun (y1 : Str) => true).foldl (fun (m : List (Str × Int)) (y1 : Str) => kput m y1 (path.dropLast.count y1 : Int)) [])
def vc_often_above (path : (List Str)) : Prop := (path.dropLast.length ≤ lim) ∧ (∀ y1 ∈ path.dropLast, (true = true → ((path ≠ []))))
theorem b_often_above (path : (List Str)) (h : vc_often_above path)  : RetQ (eM eI) (f_often_above path) ((DL.tRet (cDc (.nm 1) [1] (aIt (c2 sl01 (cVw 0) (c1 negO (cC (.int 1))))) DL.tYes (cVar 1) (cCnt (cVar 0) (cVar 1)))) [.v ((eT eS) path), .e]) := by
  exact (show RetQ (eM eI) ((path.dropLast.filter fun (y1 : Str) => true).foldl (fun (m : List (Str × Int)) (y1 : Str) => kput m y1 (path.dropLast.count y1 : Int)) []) _ from (y_ret (show _ = Pg.ret ((eM eI) ((path.dropLast.filter fun (y1 : Str) => true).foldl (fun (m : List (Str × Int)) (y1 : Str) => kput m y1 (path.dropLast.count y1 : Int)) [])) from (q_dc (f := eS) (xs := path.dropLast) (p := fun (y1 : Str) => true) (kf := fun (y1 : Str) => y1) (vf := fun (y1 : Str) => (path.dropLast.count y1 : Int)) (g := eI) (q_itT (q_2 (q_vw rfl) (q_1 q_C o_negI) o_cutLastT)) h.1 (fun y1 hy1 => ⟨_, rfl, q_yes, fun ee0 => ⟨(q_var rfl), (q_cnt (q_var rfl) (q_var rfl) ((h.2 y1 hy1) ee0))⟩⟩))) rfl))
theorem t_often_above (path : (List Str)) (h : vc_often_above path) : F_often_above [(eT eS) path] = .ret ((eM eI) (f_often_above path)) := by
  refine (runF_at [.v ((eT eS) path), .e] rfl rfl).trans ?_
  unfold B_often_above
  rw [show _ = _ from b_often_above path h]
  rfl
noncomputable def f_more_above (mine : (List (Str × Int))) (its : (List (Str × Int))) (last : Str) : (List Str) := ((its.map fun p => p.1).filter fun (y2 : Str) => ((!decide (y2 = last)) && (decide (((kget mine y2).getD (0 : Int)) < ((kget its y2).getD default)))))
def vc_more_above (mine : (List (Str × Int))) (its : (List (Str × Int))) (last : Str) : Prop := ((its.map fun p => p.1).length ≤ lim) ∧ (∀ y2 ∈ (its.map fun p => p.1), (((!decide (y2 = last)) = true → (((kget its y2).isSome = true)))))
theorem b_more_above (mine : (List (Str × Int))) (its : (List (Str × Int))) (last : Str) (h : vc_more_above mine its last)  : RetQ (eL eS) (f_more_above mine its last) ((DL.tRet (cL (aLc (.nm 3) [3] (aKeys (cVar 1)) (tAnd (tB (c2 (eqO true) (cVar 3) (cVar 2))) (tB (c2 (coO2 .Gt) (c2 dixO (cVar 1) (cVar 3)) (cGet (cVar 0) (cVar 3) (cC (.int 0)))))) (cVar 3)))) [.v ((eM eI) mine), .v ((eM eI) its), .v (eS last), .e]) := by
  exact (show RetQ (eL eS) ((its.map fun p => p.1).filter fun (y2 : Str) => ((!decide (y2 = last)) && (decide (((kget mine y2).getD (0 : Int)) < ((kget its y2).getD default))))) _ from (y_ret (show _ = Pg.ret ((eL eS) ((its.map fun p => p.1).filter fun (y2 : Str) => ((!decide (y2 = last)) && (decide (((kget mine y2).getD (0 : Int)) < ((kget its y2).getD default)))))) from (q_cLL (q_lcid (q_lc (f := eS) (xs := (its.map fun p => p.1)) (p := fun (y2 : Str) => ((!decide (y2 = last)) && (decide (((kget mine y2).getD (0 : Int)) < ((kget its y2).getD default))))) (v := fun (y2 : Str) => y2) (g := eS) (q_keys (q_var rfl)) h.1 (fun y2 hy2 => ⟨_, rfl, (q_tAnd (b := (!decide (y2 = last))) (c := (decide (((kget mine y2).getD (0 : Int)) < ((kget its y2).getD default)))) (q_tB (q_2 (q_var rfl) (q_var rfl) o_neS)) (fun ee0 => (q_tB (q_2 (q_2 (q_var rfl) (q_var rfl) (o_dix ((h.2 y2 hy2) ee0))) (q_get (q_var rfl) (q_var rfl) q_C) o_gtI2)))), fun ee0 => (q_var rfl)⟩))))) rfl))
theorem t_more_above (mine : (List (Str × Int))) (its : (List (Str × Int))) (last : Str) (h : vc_more_above mine its last) : F_more_above [(eM eI) mine, (eM eI) its, eS last] = .ret ((eL eS) (f_more_above mine its last)) := by
  refine (runF_at [.v ((eM eI) mine), .v ((eM eI) its), .v (eS last), .e] rfl rfl).trans ?_
  unfold B_more_above
  rw [show _ = _ from b_more_above mine its last h]
  rfl
noncomputable def f_path_tells (path : (List Str)) (other : (List Str)) : Bool := (if ((!decide ((ixD (id other) (-1 : Int)) = (ixD (id path) (-1 : Int)))) || (((((f_often_above (id other)).map fun p => p.1).filter fun (y4 : Str) => (!decide (y4 = (ixD (id path) (-1 : Int))))).map fun (y4 : Str) => (!(kget (f_often_above (id path)) y4).isSome)).any id)) = true then false else (decide ((((kget (f_often_above (id other)) (ixD (id path) (-1 : Int))).getD (0 : Int)) + ((f_more_above (f_often_above (id path)) (f_often_above (id other)) (ixD (id path) (-1 : Int))).map fun (y5 : Str) => (((kget (f_often_above (id other)) y5).getD default) - ((kget (f_often_above (id path)) y5).getD (0 : Int)))).sum) ≤ ((kget (f_often_above (id path)) (ixD (id path) (-1 : Int))).getD (0 : Int)))))
def vc_path_tells (path : (List Str)) (other : (List Str)) : Prop := (((sz1 path)) ∧ ((sz1 other))) ∧ ((((vc_often_above (id path))) ∧ ((vc_often_above (id other))) ∧ (((atI (id path) (-1 : Int)).isSome = true))) ∧ ((((((atI (id other) (-1 : Int)).isSome = true))) ∧ ((!decide ((ixD (id other) (-1 : Int)) = (ixD (id path) (-1 : Int)))) = false → ((((f_often_above (id other)).map fun p => p.1).length ≤ lim)))) ∧ (((!decide ((ixD (id other) (-1 : Int)) = (ixD (id path) (-1 : Int)))) || (((((f_often_above (id other)).map fun p => p.1).filter fun (y4 : Str) => (!decide (y4 = (ixD (id path) (-1 : Int))))).map fun (y4 : Str) => (!(kget (f_often_above (id path)) y4).isSome)).any id)) = false → ((((vc_more_above (f_often_above (id path)) (f_often_above (id other)) (ixD (id path) (-1 : Int)))) ∧ ((f_more_above (f_often_above (id path)) (f_often_above (id other)) (ixD (id path) (-1 : Int))).length ≤ lim) ∧ (∀ y5 ∈ (f_more_above (f_often_above (id path)) (f_often_above (id other)) (ixD (id path) (-1 : Int))), (((kget (f_often_above (id other)) y5).isSome = true))))))))
theorem b_path_tells (path : (List Str)) (other : (List Str)) (h : vc_path_tells path other)  : RetQ eB (f_path_tells path other) ((DL.tSeq (tPar 2 3 (oV (cCall (F_tupled 5) (aC (cVar 0) aN))) (oV (cCall (F_tupled 5) (aC (cVar 1) aN)))) (DL.tSeq (DL.tAsg (.tp [(.nm 4), (.nm 5), (.nm 6)]) (xE (cTup (aC (cCall F_often_above (aC (cVar 2) aN)) (aC (cCall F_often_above (aC (cVar 3) aN)) (aC (c2 ixO (cVw 2) (c1 negO (cC (.int 1)))) aN)))))) (DL.tSeq (DL.tIf (tOr (tB (c2 (eqO true) (c2 ixO (cVw 3) (c1 negO (cC (.int 1)))) (cVar 6))) (tT (c1 anyO (cL (aLc (.nm 8) [8] (aKeys (cVar 5)) (tB (c2 (eqO true) (cVar 8) (cVar 6))) (c2 (dinO true) (cVar 8) (cVar 4))))))) (DL.tRet (cC (.bl false))) DL.tNil) (DL.tSeq (tSet 7 (oV (c1 sumO (cL (aLc (.nm 8) [8] (aIt (cCall F_more_above (aC (cVar 4) (aC (cVar 5) (aC (cVar 6) aN))))) DL.tYes (c2 subO (c2 dixO (cVar 5) (cVar 8)) (cGet (cVar 4) (cVar 8) (cC (.int 0))))))))) (DL.tRet (c2 (coO2 .LtE) (c2 addO (cGet (cVar 5) (cVar 6) (cC (.int 0))) (cVar 7)) (cGet (cVar 4) (cVar 6) (cC (.int 0))))))))) [.v ((eT eS) path), .v ((eT eS) other), .e, .e, .e, .e, .e, .e, .e]) := by
  exact (show RetQ eB (if ((!decide ((ixD (id other) (-1 : Int)) = (ixD (id path) (-1 : Int)))) || (((((f_often_above (id other)).map fun p => p.1).filter fun (y4 : Str) => (!decide (y4 = (ixD (id path) (-1 : Int))))).map fun (y4 : Str) => (!(kget (f_often_above (id path)) y4).isSome)).any id)) = true then false else (decide ((((kget (f_often_above (id other)) (ixD (id path) (-1 : Int))).getD (0 : Int)) + ((f_more_above (f_often_above (id path)) (f_often_above (id other)) (ixD (id path) (-1 : Int))).map fun (y5 : Str) => (((kget (f_often_above (id other)) y5).getD default) - ((kget (f_often_above (id path)) y5).getD (0 : Int)))).sum) ≤ ((kget (f_often_above (id path)) (ixD (id path) (-1 : Int))).getD (0 : Int))))) _ from (y_seq (Δ1 := [.v ((eT eS) path), .v ((eT eS) other), .v ((eT eS) (id path)), .v ((eT eS) (id other)), .e, .e, .e, .e, .e]) (z_par2 (Δ1 := [.v ((eT eS) path), .v ((eT eS) other), .v ((eT eS) (id path)), .v ((eT eS) (id other)), .e, .e, .e, .e, .e]) (o_v (d := (eT eS) (id path)) (q_call (q_aC (q_var rfl) q_aN) (u_tupT path h.1.1))) (o_v (d := (eT eS) (id other)) (q_call (q_aC (q_var rfl) q_aN) (u_tupT other h.1.2)))) (y_seq (Δ1 := [.v ((eT eS) path), .v ((eT eS) other), .v ((eT eS) (id path)), .v ((eT eS) (id other)), .v ((eM eI) (f_often_above (id path))), .v ((eM eI) (f_often_above (id other))), .v (eS (ixD (id path) (-1 : Int))), .e, .e]) (z_asg (q_tup (q_aC (q_call (q_aC (q_var rfl) q_aN) (t_often_above (id path) h.2.1.1)) (q_aC (q_call (q_aC (q_var rfl) q_aN) (t_often_above (id other) h.2.1.2.1)) (q_aC (q_2 (q_vw rfl) (q_1 q_C o_negI) (o_ixTD h.2.1.2.2)) q_aN))))) (y_seqif (v := false) (w := (decide ((((kget (f_often_above (id other)) (ixD (id path) (-1 : Int))).getD (0 : Int)) + ((f_more_above (f_often_above (id path)) (f_often_above (id other)) (ixD (id path) (-1 : Int))).map fun (y5 : Str) => (((kget (f_often_above (id other)) y5).getD default) - ((kget (f_often_above (id path)) y5).getD (0 : Int)))).sum) ≤ ((kget (f_often_above (id path)) (ixD (id path) (-1 : Int))).getD (0 : Int))))) (b := ((!decide ((ixD (id other) (-1 : Int)) = (ixD (id path) (-1 : Int)))) || (((((f_often_above (id other)).map fun p => p.1).filter fun (y4 : Str) => (!decide (y4 = (ixD (id path) (-1 : Int))))).map fun (y4 : Str) => (!(kget (f_often_above (id path)) y4).isSome)).any id))) (q_tOr (b := (!decide ((ixD (id other) (-1 : Int)) = (ixD (id path) (-1 : Int))))) (c := (((((f_often_above (id other)).map fun p => p.1).filter fun (y4 : Str) => (!decide (y4 = (ixD (id path) (-1 : Int))))).map fun (y4 : Str) => (!(kget (f_often_above (id path)) y4).isSome)).any id)) (q_tB (q_2 (q_2 (q_vw rfl) (q_1 q_C o_negI) (o_ixTD h.2.2.1.1)) (q_var rfl) o_neS)) (fun ee0 => (q_tT (q_1 (q_cLL (q_lc (f := eS) (xs := ((f_often_above (id other)).map fun p => p.1)) (p := fun (y4 : Str) => (!decide (y4 = (ixD (id path) (-1 : Int))))) (v := fun (y4 : Str) => (!(kget (f_often_above (id path)) y4).isSome)) (g := eB) (q_keys (q_var rfl)) (h.2.2.1.2 ee0) (fun y4 hy4 => ⟨_, rfl, (q_tB (q_2 (q_var rfl) (q_var rfl) o_neS)), fun ee1 => (q_2 (q_var rfl) (q_var rfl) o_dninS)⟩))) o_any) o_truB))) (fun ee0 => (y_seqret (show _ = Pg.ret (eB false) from q_C) rfl)) (fun ee0 => (y_seqnil (y_seq (Δ1 := [.v ((eT eS) path), .v ((eT eS) other), .v ((eT eS) (id path)), .v ((eT eS) (id other)), .v ((eM eI) (f_often_above (id path))), .v ((eM eI) (f_often_above (id other))), .v (eS (ixD (id path) (-1 : Int))), .v (eI ((f_more_above (f_often_above (id path)) (f_often_above (id other)) (ixD (id path) (-1 : Int))).map fun (y5 : Str) => (((kget (f_often_above (id other)) y5).getD default) - ((kget (f_often_above (id path)) y5).getD (0 : Int)))).sum), .e]) (z_setO (o_v (d := eI ((f_more_above (f_often_above (id path)) (f_often_above (id other)) (ixD (id path) (-1 : Int))).map fun (y5 : Str) => (((kget (f_often_above (id other)) y5).getD default) - ((kget (f_often_above (id path)) y5).getD (0 : Int)))).sum) (q_1 (q_cLL (q_lc0 (f := eS) (xs := (f_more_above (f_often_above (id path)) (f_often_above (id other)) (ixD (id path) (-1 : Int)))) (v := fun (y5 : Str) => (((kget (f_often_above (id other)) y5).getD default) - ((kget (f_often_above (id path)) y5).getD (0 : Int)))) (g := eI) (q_itL (q_call (q_aC (q_var rfl) (q_aC (q_var rfl) (q_aC (q_var rfl) q_aN))) (t_more_above (f_often_above (id path)) (f_often_above (id other)) (ixD (id path) (-1 : Int)) (h.2.2.2 ee0).1))) (h.2.2.2 ee0).2.1 (fun y5 hy5 => ⟨_, rfl, (q_2 (q_2 (q_var rfl) (q_var rfl) (o_dix ((h.2.2.2 ee0).2.2 y5 hy5))) (q_get (q_var rfl) (q_var rfl) q_C) o_subI)⟩))) o_sum))) (y_ret (show _ = Pg.ret (eB (decide ((((kget (f_often_above (id other)) (ixD (id path) (-1 : Int))).getD (0 : Int)) + ((f_more_above (f_often_above (id path)) (f_often_above (id other)) (ixD (id path) (-1 : Int))).map fun (y5 : Str) => (((kget (f_often_above (id other)) y5).getD default) - ((kget (f_often_above (id path)) y5).getD (0 : Int)))).sum) ≤ ((kget (f_often_above (id path)) (ixD (id path) (-1 : Int))).getD (0 : Int))))) from (q_2 (q_2 (q_get (q_var rfl) (q_var rfl) q_C) (q_var rfl) o_addI) (q_get (q_var rfl) (q_var rfl) q_C) o_leI2)) rfl))))))))
theorem t_path_tells (path : (List Str)) (other : (List Str)) (h : vc_path_tells path other) : F_path_tells [(eT eS) path, (eT eS) other] = .ret (eB (f_path_tells path other)) := by
  refine (runF_at [.v ((eT eS) path), .v ((eT eS) other), .e, .e, .e, .e, .e, .e, .e] rfl rfl).trans ?_
  unfold B_path_tells
  rw [show _ = _ from b_path_tells path other h]
  rfl
noncomputable def f__law_due (states : (List ((List (Str × (Option Int))) × (List Str)))) (row : (List Str)) (far : (List Str)) : Bool := (!((states.map fun (y6 : ((List (Str × (Option Int))) × (List Str))) => ((endsF y6 row) && (!(endsF y6 far)))).any id))
def vc__law_due (states : (List ((List (Str × (Option Int))) × (List Str)))) (row : (List Str)) (far : (List Str)) : Prop := ((states.length ≤ lim) ∧ (∀ y6 ∈ states, ((endsOk y6 row)) ∧ ((endsF y6 row) = true → (endsOk y6 far))))
theorem b__law_due (states : (List ((List (Str × (Option Int))) × (List Str)))) (row : (List Str)) (far : (List Str)) (h : vc__law_due states row far)  : RetQ eB (f__law_due states row far) ((DL.tRet (cNot (c1 anyO (cL (aLc (.nm 3) [3] (aIt (cVar 0)) DL.tYes (eAnd (cCall F__law_ends (aC (cVar 3) (aC (cVar 1) aN))) (cNot (cCall F__law_ends (aC (cVar 3) (aC (cVar 2) aN)))))))))) [.v ((eL (e2 (eM (eO eI)) (eL eS))) states), .v ((eT eS) row), .v ((eT eS) far), .e]) := by
  exact (show RetQ eB (!((states.map fun (y6 : ((List (Str × (Option Int))) × (List Str))) => ((endsF y6 row) && (!(endsF y6 far)))).any id)) _ from (y_ret (show _ = Pg.ret (eB (!((states.map fun (y6 : ((List (Str × (Option Int))) × (List Str))) => ((endsF y6 row) && (!(endsF y6 far)))).any id))) from (q_cNot (q_1 (q_cLL (q_lc0 (f := (e2 (eM (eO eI)) (eL eS))) (xs := states) (v := fun (y6 : ((List (Str × (Option Int))) × (List Str))) => ((endsF y6 row) && (!(endsF y6 far)))) (g := eB) (q_itL (q_var rfl)) h.1 (fun y6 hy6 => ⟨_, rfl, (q_eAnd (b := (endsF y6 row)) (c := (!(endsF y6 far))) (q_call (q_aC (q_var rfl) (q_aC (q_var rfl) q_aN)) (u_ends y6 row (h.2 y6 hy6).1)) (fun ee0 => (q_cNot (q_call (q_aC (q_var rfl) (q_aC (q_var rfl) q_aN)) (u_ends y6 far ((h.2 y6 hy6).2 ee0))))))⟩))) o_any))) rfl))
theorem t__law_due (states : (List ((List (Str × (Option Int))) × (List Str)))) (row : (List Str)) (far : (List Str)) (h : vc__law_due states row far) : F__law_due [(eL (e2 (eM (eO eI)) (eL eS))) states, (eT eS) row, (eT eS) far] = .ret (eB (f__law_due states row far)) := by
  refine (runF_at [.v ((eL (e2 (eM (eO eI)) (eL eS))) states), .v ((eT eS) row), .v ((eT eS) far), .e] rfl rfl).trans ?_
  unfold B__law_due
  rw [show _ = _ from b__law_due states row far h]
  rfl
noncomputable def f__law_of (u : Unit) (some : (List Str)) : Pg Str := ((drawI u (some.length : Int)).bind fun b7 => (asr (((atI some b7).isSome = true)) (.ret (ixD some b7))))
theorem t__law_of (u : Unit) (some : (List Str)) : Ref ((f__law_of u some).bind fun a => .ret (eS a)) (F__law_of [eU u, (eL eS) some]) := by
  refine m_run (S := B__law_of) [.v (eU u), .w ((eL eS) some)] rfl rfl ?_
  exact (show Ref _ ((DL.tRet (c2 ixO (cVw 1) (cCall takeP (aC (cVar 0) (aC (c1 lenO' (cVw 1)) aN))))) [.v (eU u), .w ((eL eS) some)]) from m_reify (m_retG (m_sub (C := fun a => (c2 ixO a (cCall takeP (aC (cVar 0) (aC (c1 lenO' (cVw 1)) aN))))) hC_c2_0 (m_pure (q_vww rfl) (m_sub (C := fun a => (c2 ixO (fun _ => .ret ((eL eS) some)) a)) hC_c2_1 (m_callA (m_aC (m_pure (q_var rfl) (m_aC (m_pure (q_1 (q_vww rfl) o_lenL) (m_aN (m_app (f := eI) (r_take u (some.length : Int)) (fun b7 => (m_asr (fun h8 => (m_pure (q_2 rfl rfl (o_ixLD h8)) (m_end Ref.refl)))))))))))))))))
noncomputable def f__law_trail (u : Unit) (tags : (List Str)) (most : Int) : Pg (List Str) := ((drawI u most).bind fun b9 => (asr ((inR ((1 : Int) + b9) = true)) (asr ((rngI 0 ((1 : Int) + b9).toNat).length ≤ lim) ((mapP (fun (y10 : Int) => (((f__law_of u tags).bind fun b11 => (.ret b11)))) (rngI 0 ((1 : Int) + b9).toNat)).bind fun b12 => (.ret b12)))))
theorem t__law_trail (u : Unit) (tags : (List Str)) (most : Int) : Ref ((f__law_trail u tags most).bind fun a => .ret ((eT eS) a)) (F__law_trail [eU u, (eL eS) tags, eI most]) := by
  refine m_run (S := B__law_trail) [.v (eU u), .v ((eL eS) tags), .v (eI most), .e] rfl rfl ?_
  exact (show Ref _ ((DL.tRet (c1 tupO (cL (aLc (.nm 3) [3] (aRg1 (c2 addO (cC (.int 1)) (cCall takeP (aC (cVar 0) (aC (cVar 2) aN))))) DL.tYes (cCall F__law_of (aC (cVar 0) (aC (cVw 1) aN))))))) [.v (eU u), .v ((eL eS) tags), .v (eI most), .e]) from m_reify (m_retG (m_sub (C := fun a => (c1 tupO a)) hC_c1_0 (m_sub (C := fun a => (cL a)) hC_cL_0 (m_lc (m_sub (C := fun a => (aRg1 a)) hC_aRg1_0 (m_sub (C := fun a => (c2 addO (cC (.int 1)) a)) hC_c2_1 (m_callA (m_aC (m_pure (q_var rfl) (m_aC (m_pure (q_var rfl) (m_aN (m_app (f := eI) (r_take u most) (fun b9 => (m_pure (q_2 q_C rfl o_addI) (m_asr (fun h14 => (m_pure (q_rg1 rfl h14) (m_asr (fun h13 => (m_mapP (f := eI) (g := eS) (xs := (rngI 0 ((1 : Int) + b9).toNat)) h13 (fun y10 hy10 => ⟨_, rfl, (m_reify (m_callA (m_aC (m_pure (q_var rfl) (m_aC (m_pure (q_vw rfl) (m_aN (m_app (f := eS) (t__law_of u tags) (fun b11 => (m_end Ref.refl))))))))))⟩) (fun b12 => (m_pure (q_cLL rfl) (m_pure (q_1 rfl o_tupL) (m_end Ref.refl))))))))))))))))))))))))))
noncomputable def f__law_right_1 (v0 : Unit) (v1 : (List ((List (Str × (Option Int))) × (List Str)))) (z : Unit) (x : Int) : Pg (Unit ⊕ Bool) := ((f__law_trail v0 [("a" : Str), ("b" : Str), ("c" : Str)] (5 : Int)).bind fun b15 => ((f__law_trail v0 [("a" : Str), ("b" : Str), ("c" : Str)] (5 : Int)).bind fun b16 => (Pg.bind (((drawI v0 (3 : Int)).bind fun b21 => (if (decide ((0 : Int) < b21)) = true then (asr ((b16.dropLast.length + (cutL b15 (some (-1 : Int)) none).length ≤ lim)) (.ret (b16.dropLast ++ (cutL b15 (some (-1 : Int)) none)))) else (.ret b16))) : Pg (List Str)) fun z17 => (asr (((vc_path_tells b15 z17)) ∧ ((vc__law_due v1 b15 z17)) ∧ (sameOk (eB (f_path_tells b15 z17)) (eB (f__law_due v1 b15 z17)))) (if (!(sameF (eB (f_path_tells b15 z17)) (eB (f__law_due v1 b15 z17)))) = true then (.ret (.inr false)) else (.ret (.inl ())))))))
theorem b__law_right_1 (v0 : Unit) (v1 : (List ((List (Str × (Option Int))) × (List Str))))  : ∀ z x Δ, (fun (z : Unit) Δ => ∃ w2 w3 w4 : Sl, Δ = [.v (eU v0), .v ((eL (e2 (eM (eO eI)) (eL eS))) v1), w2, w3, w4]) z Δ → RefJ (fun (z : Unit) Δ => ∃ w2 w3 w4 : Sl, Δ = [.v (eU v0), .v ((eL (e2 (eM (eO eI)) (eL eS))) v1), w2, w3, w4]) eB (f__law_right_1 v0 v1 z x) ((ofO (tgS (.nm 2) (eI x) Δ)).bind (DL.tSeq (tPar 3 4 (oV (cCall F__law_trail (aC (cVar 0) (aC (cL (aL (aC (cC (.str "a")) (aC (cC (.str "b")) (aC (cC (.str "c")) aN))))) (aC (cC (.int 5)) aN))))) (oV (cCall F__law_trail (aC (cVar 0) (aC (cL (aL (aC (cC (.str "a")) (aC (cC (.str "b")) (aC (cC (.str "c")) aN))))) (aC (cC (.int 5)) aN)))))) (DL.tSeq (DL.tIf (tB (c2 (coO2 .Gt) (cCall takeP (aC (cVar 0) (aC (cC (.int 3)) aN))) (cC (.int 0)))) (tSet 4 (oV (c2 addO (c2 sl01 (cVw 4) (c1 negO (cC (.int 1)))) (c2 sl10 (cVw 3) (c1 negO (cC (.int 1))))))) DL.tNil) (DL.tIf (tNot (tT (cCall (F__law_same 5) (aC (cCall F_path_tells (aC (cVar 3) (aC (cVar 4) aN))) (aC (cCall F__law_due (aC (cVar 1) (aC (cVar 3) (aC (cVar 4) aN)))) aN))))) (DL.tRet (cC (.bl false))) DL.tNil)))) := by
  rintro z x Δ ⟨w2, w3, w4, rfl⟩ ρ R G hn hc hr
  refine m_tgB (Δ1 := [.v (eU v0), .v ((eL (e2 (eM (eO eI)) (eL eS))) v1), .v (eI x), w3, w4]) rfl ?_
  exact (show Ref _ (((DL.tSeq (tPar 3 4 (oV (cCall F__law_trail (aC (cVar 0) (aC (cL (aL (aC (cC (.str "a")) (aC (cC (.str "b")) (aC (cC (.str "c")) aN))))) (aC (cC (.int 5)) aN))))) (oV (cCall F__law_trail (aC (cVar 0) (aC (cL (aL (aC (cC (.str "a")) (aC (cC (.str "b")) (aC (cC (.str "c")) aN))))) (aC (cC (.int 5)) aN)))))) (DL.tSeq (DL.tIf (tB (c2 (coO2 .Gt) (cCall takeP (aC (cVar 0) (aC (cC (.int 3)) aN))) (cC (.int 0)))) (tSet 4 (oV (c2 addO (c2 sl01 (cVw 4) (c1 negO (cC (.int 1)))) (c2 sl10 (cVw 3) (c1 negO (cC (.int 1))))))) DL.tNil) (DL.tIf (tNot (tT (cCall (F__law_same 5) (aC (cCall F_path_tells (aC (cVar 3) (aC (cVar 4) aN))) (aC (cCall F__law_due (aC (cVar 1) (aC (cVar 3) (aC (cVar 4) aN)))) aN))))) (DL.tRet (cC (.bl false))) DL.tNil))) [.v (eU v0), .v ((eL (e2 (eM (eO eI)) (eL eS))) v1), .v (eI x), w3, w4]).bind G) from (m_seqG (m_par (m_callA (m_aC (m_pure (q_var rfl) (m_aC (m_pure (q_cLL (f := eS) (xs := [("a" : Str), ("b" : Str), ("c" : Str)]) (q_aL (q_aC q_C (q_aC q_C (q_aC q_C q_aN))))) (m_aC (m_pure q_C (m_aN (m_app (f := (eT eS)) (t__law_trail v0 [("a" : Str), ("b" : Str), ("c" : Str)] (5 : Int)) (fun b15 => (m_callA (m_aC (m_pure (q_var rfl) (m_aC (m_pure (q_cLL (f := eS) (xs := [("a" : Str), ("b" : Str), ("c" : Str)]) (q_aL (q_aC q_C (q_aC q_C (q_aC q_C q_aN))))) (m_aC (m_pure q_C (m_aN (m_app (f := (eT eS)) (t__law_trail v0 [("a" : Str), ("b" : Str), ("c" : Str)] (5 : Int)) (fun b16 => (m_go (m_seqG (m_joinJ (fun (z17 : (List Str)) Δ => Δ = [.v (eU v0), .v ((eL (e2 (eM (eO eI)) (eL eS))) v1), .v (eI x), .v ((eT eS) b15), .v ((eT eS) z17)]) (fun z17 Δ' hI => (by subst hI; exact (m_go (m_if (m_asr (fun h19 => (m_pure (q_tNot (q_tT (q_call (q_aC (q_call (q_aC (q_var rfl) (q_aC (q_var rfl) q_aN)) (t_path_tells b15 z17 h19.1)) (q_aC (q_call (q_aC (q_var rfl) (q_aC (q_var rfl) (q_aC (q_var rfl) q_aN))) (t__law_due v1 b15 z17 h19.2.1)) q_aN)) (u_same (eB (f_path_tells b15 z17)) (eB (f__law_due v1 b15 z17)) h19.2.2)) o_truB)) (m_ite (fun e18 => (m_retG (m_pure q_C (m_end (hr false))))) (fun e18 => (m_nxP z_nil (m_end (hn () _ ⟨(.v (eI x)), (.v ((eT eS) b15)), (.v ((eT eS) z17)), rfl⟩)))))))))))) (fun R' hq20 => (m_if (m_sub (C := fun a => (tB a)) hC_tB_0 (m_sub (C := fun a => (c2 (coO2 .Gt) a (cC (.int 0)))) hC_c2_0 (m_callA (m_aC (m_pure (q_var rfl) (m_aC (m_pure q_C (m_aN (m_app (f := eI) (r_take v0 (3 : Int)) (fun b21 => (m_pure (q_2 rfl q_C o_gtI2) (m_pure (q_tB rfl) (m_ite (fun e23 => (m_asr (fun h22 => (m_nxP (z_setO (o_v (d := (eT eS) (b16.dropLast ++ (cutL b15 (some (-1 : Int)) none))) (q_2 (d := eT eS b16.dropLast) (e := eT eS (cutL b15 (some (-1 : Int)) none)) (q_2 (q_vw rfl) (q_1 q_C o_negI) o_cutLastT) (q_2 (q_vw rfl) (q_1 q_C o_negI) (show sl10 (eT eS b15) (.int (-1 : Int)) = some (eT eS (cutL b15 (some (-1 : Int)) none)) from o_slT)) (o_addT (f := eS) h22)))) (m_end (hq20 (b16.dropLast ++ (cutL b15 (some (-1 : Int)) none)) _ rfl)))))) (fun e23 => (m_nxP z_nil (m_end (hq20 b16 _ rfl)))))))))))))))))))))))))))))))))))))))))))))
noncomputable def f__law_right_2  : Pg Bool := (.ret true)
theorem b__law_right_2  (j0 : Sl) (j1 : Sl) (j2 : Sl) (j3 : Sl) (j4 : Sl) : Ref ((f__law_right_2 ).bind fun a => .ret (.rt (eB a))) ((DL.tRet (cC (.bl true))) [j0, j1, j2, j3, j4]) := m_reify (m_retG (m_pure q_C (m_end Ref.refl)))
noncomputable def f__law_right (u : Unit) (states : (List ((List (Str × (Option Int))) × (List Str)))) : Pg Bool := (asr ((inR (15 : Int) = true)) ((loopM (f__law_right_1 u states) (rngI 0 (15 : Int).toNat) ()).bind fun r => match r with | .inl z24 => (f__law_right_2 ) | .inr t28 => (.ret t28)))
theorem t__law_right (u : Unit) (states : (List ((List (Str × (Option Int))) × (List Str)))) : Ref ((f__law_right u states).bind fun a => .ret (eB a)) (F__law_right [eU u, (eL (e2 (eM (eO eI)) (eL eS))) states]) := by
  refine m_run (S := B__law_right) [.v (eU u), .v ((eL (e2 (eM (eO eI)) (eL eS))) states), .e, .e, .e] rfl rfl ?_
  exact (show Ref _ ((DL.tSeq (DL.tFor (.nm 2) (aRg1 (cC (.int 15))) (DL.tSeq (tPar 3 4 (oV (cCall F__law_trail (aC (cVar 0) (aC (cL (aL (aC (cC (.str "a")) (aC (cC (.str "b")) (aC (cC (.str "c")) aN))))) (aC (cC (.int 5)) aN))))) (oV (cCall F__law_trail (aC (cVar 0) (aC (cL (aL (aC (cC (.str "a")) (aC (cC (.str "b")) (aC (cC (.str "c")) aN))))) (aC (cC (.int 5)) aN)))))) (DL.tSeq (DL.tIf (tB (c2 (coO2 .Gt) (cCall takeP (aC (cVar 0) (aC (cC (.int 3)) aN))) (cC (.int 0)))) (tSet 4 (oV (c2 addO (c2 sl01 (cVw 4) (c1 negO (cC (.int 1)))) (c2 sl10 (cVw 3) (c1 negO (cC (.int 1))))))) DL.tNil) (DL.tIf (tNot (tT (cCall (F__law_same 5) (aC (cCall F_path_tells (aC (cVar 3) (aC (cVar 4) aN))) (aC (cCall F__law_due (aC (cVar 1) (aC (cVar 3) (aC (cVar 4) aN)))) aN))))) (DL.tRet (cC (.bl false))) DL.tNil)))) (DL.tRet (cC (.bl true)))) [.v (eU u), .v ((eL (e2 (eM (eO eI)) (eL eS))) states), .e, .e, .e]) from m_reify (m_seqG (m_for (m_asr (fun h29 => (m_pure (q_rg1 q_C h29) (m_loop (b__law_right_1 u states ) ⟨(.e), (.e), (.e), rfl⟩ (fun z24 Δ' hI => (by obtain ⟨j25, j26, j27, rfl⟩ := hI; exact (m_go (m_stage (b__law_right_2  (.v (eU u)) (.v ((eL (e2 (eM (eO eI)) (eL eS))) states)) (j25) (j26) (j27)))))) (fun t28 => (m_goR (m_end Ref.refl))))))))))
end Q75
end
section
set_option Elab.async false
set_option linter.all false
set_option maxRecDepth 1000000
/-! k75: for which states a node stays, as bits -/
namespace Q75
open PySem L2 DL
abbrev Kd := Nat × Nat × Nat × Nat
def lst (i : Nat) : Str := if i = 0 then "a" else if i = 1 then "b" else "c"
def can (k : Kd) : List Str := List.replicate k.1 ("a" : Str) ++ List.replicate k.2.1 ("b" : Str) ++ List.replicate k.2.2.1 ("c" : Str)
def row (k : Kd) : List Str := can k ++ [lst k.2.2.2]
def bits {α : Type} (p : α → Bool) : List α → Nat
  | [] => 0
  | x :: xs => 2 * bits p xs + (p x).toNat
def msk (k : Kd) : Nat := bits (fun s => endsF s (row k)) STA
def kinds : List Kd := (List.range 5).flatMap fun a => (List.range (5 - a)).flatMap fun b => (List.range (5 - a - b)).flatMap fun c => (List.range 3).map fun l => (a, b, c, l)
def MS0 : List Nat := [
  38884886278360477626935111882306111189240353435583002450858922508687807269185665348077754972338997137242692444330478592070389216712383820413828926299573435783414107324020625895378893614420577104192077823,
  39191066485240917461920216511140299759593087497987063516010884717701737959759360565517260735424414763212044366854765361232782600001136357522704995452507631811934597184219075921465553864252783557097816064,
  39191066485258739495582803211213116836177854260974927689867324404930562930532399320691419309476661869808788586716832055517090738904939458085160673403177274241115708309445256503862643925915059876547002368,
  38578706071444393724494124112906537187524944999496941461737188868900589874716018088492779161628405229844085958493496349493659717978670341186859391871491151282768394601674646120664774713341496714279763838,
  38884886276061435284462464951804928558045069112114446813665955967727446648687981886167533304793311495994492521605079602229416768874402486557891513601245521734724397894772228197716060711594585119554273280,
  38884886276079257317993304532565774108197066925430116620977750485594008540528759002519270549891591735620860757592537357874281420674688617798126761727069668967366602818578747477782218277649534851125084160,
  37966345657612225903012011540798976853565240468628329298868430437240286267344097919928124950110866442854126312886725113377888346802644533668505116089284632860566751226605447136169223479881008853370748540,
  38272525572514288260834587267915326645511291008566703358228223432121681716294439987714678075732367897319858436975551526219671246981644973652985275021525296382636930189222523361251628434274538275240673280,
  38272525572532110277501795576743816812268863263840656259829815051324822377347880762665689703273805495559048135109475167025665448430562721343005730203074268004928322412340487248567980059827326597017370624,
  36741624829947889223000855421846095994224858113196110112100351211889849005685577746505822441968646427320249631680183990072879575927680108994103026202217258682324062285076869761519152279469063470011268216,
  37047786349089382398906503106361002560806111093413895641726229449163369454837828240918729855227814012296102143749009104864127528405033857845799672046750387347986420066314886492357820182643798061342523392,
  37047786349107203344799517896587021769296272842341780921163742250090495754580742146129990607213105702601697715047799643038428347238747783344391540004034397409974933726204422060715983416246083147402313728,
  34292183174619184283638042270235714587387684618756965230275785182778948736217856556144381104092398522899771691294316529687674875802133952095245327381139931194168464824684837314493564437297617443703502960,
  34597765373300847984572495724254377358353725559520026267963776450306056493315921628758667988353623278777753153538599809848033620295867831746856976682250246971064430283575598829198334611924985810910183424,
  34597765373318635209576622563568902693563907172717504883947939896656673810878068372696683197514311651018306053242775667155019089653205653524129160857407444930842110552870367403123907206535986665100410880]
def MS1 : List Nat := [
  38578706071439345364097924547202471893060048891756053564496310752760842579621253813088545705634577027090865087274638909713409231317932054166160063591902924986077189257546147884870490299632919739596013440,
  38884886276061435284462464951804928558045069112114446813665955967727446648687982635183910653072930448793660895582959602275472521690741877402489754049358610768654985711867217798162877104289353591758520320,
  38884886276074208957596771533294659977121593441386797890117460204253526479242277660342988062891120835780373713010278773370261782597693949456295256386027502251217486044188710881047387184097573684117504000,
  37966345657607177559083164510199132114956834967945814429420445193754649809882099008384850792053747397440764884134358802751619849634726267276230766600804525703151708660642765326109938065169416352874610176,
  38272525572514288260834587267915326645511291008566703358228223432121681716294439987714658990385616518743989989315503019156734411482720203137262850492411530908281898099738462327670974702413540663045914624,
  38272525572527061933572615112576923237049880386856535348096690683317273433407478017398104615165100692525940873815441104688734632623125623295377661775400221657196335096308911308148955127648840436718501888,
  36741624829942841899388092592255847838315397399805828342800745122032537014355768317937787392265032502501792746293277014126978726210216394105211771036672199769999579265011602478344656995939196474618690560,
  37047786349089382398906503106361002560806111093413895641726229449163369454837828240918711385537409452383971387948962162545156397277042144443487648308898356243771872882943214524376542377617026178573402112,
  37047786349102156021186421633429724776831992719168570320828819801946168483201516773802132830603398571737095085524418923629094185295387747971752174603471851859074490518584615912903100832060855459757686784,
  34292183174614167485588002605884162319491630888843633347351841100900326863341557781169739608601572940556120376884918645637249668385428793250170139176154218351725380362958287281172356015223005055375128576,
  34597765373300847984572495724254377358353725559520026267963776450306056493315921628758650749975912356193097781458555997016993897909742232571365754526921684607130852912428704992415808660566665386992336896,
  34597765373313618411526249465652109195265085403960969755658118661424735273962069639656687548138002353962082182107709173398277782665223730902998754918666165328474194313857722757022533136527871539010338816,
  37966345657607177559211799492834442896670719611720240425101831026954165353781965134619195095803863126007635189855551105362450676124862713077350519544082664966751865940260256704791695135177812680586018816,
  38272525572514288260834587267915326645511291008566703358228223432121681716294440736728593106452885604500128216877173210402048763508929004446139645692846303527882930344929090825137932924933394774001451008,
  38272525572527061933701250095212234018763765030630961343778076517970191715199608222847029495606061847884671529142486685743812458280020383265316740744253077246340479455838773223181899112655190706001805312]
def MS2 : List Nat := [
  36741624829942841915322232376758860799003043596379887162688538653843494710339092463947530067718816115923931071844146967365353826441383497765532253561998673645995345991324367066357250549913027272257699840,
  37047786349089382398906503106361002560806111093413895641726229449163369454837828240916347265165625783631234645542953428238921752341501131379664540943372325132967235973076382521790750506782122333943365632,
  37047786349102156037120561417932737737519638915743420940397515454226566496543881820794981958847063874286631774806593767203226985250437129695831272363470097510036190457711416346533894943966231212750536704,
  34292183174614168437387285733530803171233697030867413521982708067741533236745453436290712366901793838299436809930190521913843642340012547737835207819167830954381339209808334371855302492032882600501313536,
  34597765373300847984572495724254377358353725559520026267963776450306056493315921628756444237628914265357210155212947844997841562636570620378464187652430722237046525129886328456669069581120755132004302848,
  34597765373313619363325532593298750047058339187379696530915077611003414706238093523874353105487357028535351840014022367148582110104357715584409866829542818764947694421210672923340225881280006261007450112,
  36741624829942841915446717843825290587758415832290621997218912040810767817338962932700801210850971347210825598451640401942780096767780396679212268095089338088195333227052896303098276687150221770631413760,
  37047786349089382398906503106361002560806111093413895641726229449163369454837828989778898873426347280253788528328177419212302044307458978886049063274744516369243387264840844271788461483140140114712199168,
  37047786349102156037245046884999167526275011151654155774927888842600358382149169116390715714112510153666048538026315297256528106853883671602223929430101893241466007579837089167533518155262699215282765824,
  34292183174614168452259149532400281934542166814336535087211315364098427086329889305760795252797778821499178793637695808765339082409566415309612745712626966828801895783962914158827982907035630598151471104,
  34597765373300847984572495724254377358353725559520026267963776450306056493315921628615227447421036451860394480873461080400862019188854335642407393769054587410629776672353661521020288126846832668074573824,
  34597765373313619378197396392168228810366808970849557109179193553131786185357634234401012291848111310914919416677385554484439390062403805193550358072207848039178614364395686661395633719058356963800776704,
  34292183174614168452375335968328949737380514234519887599439663858601215319529768455325660890068741217917071920876387490543103406258360410844279332885946564417390522701212853403823092025574767399282933760,
  34597765373300847984572495724254377358353725559520026267963776450306056493315922372948754855443390661715392090013084267691763143765961262754344697941118586358313481919056040080508598019752565297266032640,
  34597765373313619378313582828096896613205156391032909621407542048947325278589235710290363796762527838335708395682458982534187103558953910972850171334397524055179777011712981294328615382935060432830857216]
def MS3 : List Nat := [
  38578706071444393724494124112906537187524944999496941461737188868900589874716018837509156460437070672915595492113538120909454206004088370728039782693104800801615346845380383944625738385646747626491609088,
  38798156104861040334909010335903574146905845269507326241096738375181538645923324474293570031822420359523644643829823976238770153184909473084148598914712484018604035603922588581503580683210300304044064768,
  38798156104878862368439654521660985487698464309550601483208689350149317587755344341902597298851999611311143290209230466824058959420532599644338235162283910054830170278460865374722466854626075643664662528,
  37966345657612225903012011540798976853565240468628329298868430437240286267344097919928105864764115064278257865226676606314951511303935401967775328634666951339083682265215543350952013598866943491014918144,
  38185795684220855671182409607912245940959662835315478582782600909943359764830930281006134134222197221380564597864472360231584255810858139952773222557737503633795734831612005246199320255162964165913477120,
  38185795684238677687849422521737301898357856317317874907179946197465170635781800106013372494101365941954051191979321598385633100365442498414146160954176549286164531271863276972289121178469940447013765120,
  36741624829947889223000855421846095994224858113196110112100351211889849005685577746505803972278241867408118875880137047753908444799897078315977425439684018500243672967602769324212174975261903441924980736,
  36961073989692802713728355465739230956773753159946595715247860212242701272389510949948705485091011236361464217278117974866961419169929082158675861188439317279182367998746357013681478348048941918793498624,
  36961073989710623659621174860961815955962122228792633756844348669317326640840044742168079538256283382231486883582760831969646649312297874905060410883051437807292010231797765997873713487171828390266142720,
  34292183174619184283638042270235714587387684618756965230275785182778948736217856556144363865714687600315116319214272716856635153416203123462328100002775573690893434795042343573007052286704268084156301312,
  34511577439078620265001559574461651368607416153310263519958067708090165725152423972002159385171698222604176254945175940489378633264523797580286469772108403056987743443624473673141779295298880786237751296,
  34511577439096407490005491018774674706036733728298645186336934120761097587856810053503387225629518557399715981444933700260691841442468137312012601295151004881814381330863352657577974700830595375903539200,
  37966345657607177559083164510199132114956834967945814429420445193754649809882099757398784858650062973469244271338190887739516541639912388612696269860744899932207372820402723830492798499271802935398367232,
  38185795684220855671182409607912245940959662835315478582782600909943359764830931030020068240651047260745555715460631545302552453428896639808401925185594089839857245939794446479057427444998670128896802816,
  38185795684233629343920307020386269911702466361426428718205980773667565773848864889424307968927797517707279516180346204214575099235617454081125507088348817471337713411171731243044830669027084893249601536]
def MS4 : List Nat := [
  36741624829942841899388092592255847838315397399805828342800745122032537014355768317935423271893248833749056003887268397298673941853988467305134873432417456463709746628326746503051562048843337858725969920,
  36961073989692802713728355465739230956773753159946595715247860212242701272389510949946341364719227567608727474872109358038656631421139152169134374233259414058586055711305292895216935281798597986519875584,
  36961073989705576336008143560620380552005677063465750594258883947843794934737647061347412673614937703627847720885873753935674973079959810435375649017745164343376635863876952010001745216742258864585441280,
  34292183174614167485588002605884162319491630888843633347351841100900326863341557781167533096254574849720232750639310603264165202986282728236765034745516457932521536568719088370898800731266851434471096320,
  34511577439078620265001559574461651368607416153310263519958067708090165725152423971999952872824700131768288628699567898116294164698979109766464112812357922389451595196764638602445155841424901129099018240,
  34511577439091390691955182883671935243589351109799201408867433571337816715208853965454096574030887432920529825018494396407455088870992578481138709302987835961398926875429954849917327082119723765580431360,
  36741624829942841915322232376758860799003043596379887162688538653843494710339093212810081626508584102818834386983227288114134160169441373003740413562826984828958726982029477392486441233047613534969528320,
  36961073989692802713728355465739230956773753159946595715247860212242701272389511698808892963341530017840142520403031269018928935770143917650077581041658491158462397531949340577319891664120514267467218944,
  36961073989705576351942283345123393512693323260039809414146700345477420378146988392753716190735559861685787146619008240426061762609949339907691428885300491636819847997335216658225292981778696033995325440,
  34292183174614168437387285733530803171233697030867413521982708067741533236745453436149495576693916024802628730211275810036437856794664386879908524258351164125335336378498468299409959308819969057537130496,
  34511577439078620265001559574461651368607416153310263519958067708090165725152423971858736082616822318271480548980207467141139087456673613943927755925487153167351960620634083956861606815456465041800298496,
  34511577439091391643754466011318576095331417254827122359461152268268972425607310565613534291845529691093033414652585951819037174977185601144157872685745549193362084683705213940470628805258010993975361536,
  34292183174614168452259149532400281934542166814336535087211315364098427086329890050094322611349179789817880123505868584303033865433243988747172268655835034708769690205857662420585378935078962182934757376,
  34511577439078620265001559574461651368607416153310263519958067708090165725152424716192263481000757749918756552654196416593036883009826267081784124256448578181432116618757786595570227776992768728242323456,
  34511577439091391658626329810188054858639887038296243924689780906110365684812984411255837389804512042327842225465738322776585449178386195748382418562981672720585091089461042481976037358380586348639682560]
def MS5 : List Nat := [
  37966345657612225903012011540798976853565240468628329298868430437240286267344098668942039931360430640306737252430508691302848203309121523304240831919175145438396467629055694681233096550581830246096437248,
  38185795686430787845343160416941563437470741445810636140981122126317656140688392439136771349739848778727407487228411414002262244470232337040909023255018598893088390403338077236150044337985131919586623488,
  38185795686448609862010173330766619394868934927813032465378467415328032718953341463004453029563888024664924787568534525239087685341467858372697877772156553614693160942362300234543769250273265959458308096,
  36741624829947889223000855421846095994224858113196110112100351211889849005685577746503439851906458198655382133474128430925603660443669151515900527835429275193953840330917913049474056360854336542768889856,
  36961074263439239771060068584209527298791232653540306150161456046994252346346020982466984555073996246651011461590647934412286560445016041911708783215822786020681021099230236797140771377129909840064282624,
  36961074263457060716952887979432112297979601722387182179750444167837285099127561042841897022669090487717213621740672859677565312900850509711101816139378252010601689973974399454269909177086643742818959360,
  34292183174619184283638042270235714587387684618756965230275785182778948736217856556142157353367689509479228692968664674483550688017057058448922995572137813271689591000803144383251474913257205644943949824,
  34511593790865793822949223184420686198451524570641233498796858903916149876154623247899706110016215893227385706589019734684070453114835955206858879365453198049618161510192444891597225121771089575976894464,
  34511593790883581047953154628733709535938428022526242954696189330064636736047958499895475391138950889565413615194184388038137695811007160526555615415316277696419640643618976609854262789797869169395367936,
  36741624829942841899388092592255847838315397399805828342800745122032537014355769066797974830683016820643959319026348718047454275582046342543343033433245767646673127619031856517258854231520087307253186560,
  36961074263439239771060068584209527298791232653540306150161456046994252346346021731329536153696298696882426507121569967765402013689769790513384203358088160704201535084059718592673854128631187283088769024,
  36961074263452013393339856679090676894023156557059474225833778991375630212294345971213346827665370745888950959260626763825851509261200704277785920435709780573524993757601549285334431423865474569218293760,
  34292183174614167485588002605884162319491630888843633347351841100900326863341557781026316306046697036223424670920395891386759417440934567378838351184699791103475533737409221999008444432347393764492312576,
  34511593790865793822949223184420686198451524570641233498796858903916149876154623247758489319808338079730577626869659421186841093465588602442872460661474528769157759657268902619772813870764051511214342144,
  34511593790878564249902846493630970073435287650207073002558853177483655685553685930129096552083122178439381934033521807659796103143551817206190625994568369523521094394282470897119152381341084516194713600]
def MS6 : List Nat := [
  34292183174614168437387285733530803171233697030867413521982708067741533236745454180483022935245316993121330060079448585574132639818341960317468047201559232005303130800393216249245604410358053504517406720,
  34511593790865793822949223184420686198451524570641233498796858903916149876154623992092016718192273511377861903223785036374370487224673535685262270235252680378272575470159741191992830640000578289483644928,
  34511593790878565201702129621277610925177353795234202153499593426064372822544169611957952747939495881793829444203561588930414975273629385286546801301448622377858417455000647149770194475029162951054458880,
  36741624829947889223000855421846095994224858113196110112100351211889849005685578495365991410696226185550285448613208751674383994171727026754108687860825406247174321439000319769467949512192902613163835392,
  36961074265577883810570472592947576488963244212084007012934218514453248839111306965958603678620945327187444350767808550378024392116875976733803485682306404864336703208002601330898312760930945404191637504,
  36961074265595704756463291988170161488151613280930883042523206636784847293704909801074349986991542036092321565201664678995046468908725940876242884061847212786060447934880010012726993857509711497889054720,
  34292183174619184283638042270235714587387684618756965230275785182778948736217856556000940563159811695982420613249749962606144902471708897590996312011321146442643568811208651794055926946457339586360115200,
  34511594046362468409792155428326296117667838764662029904716215016350930878514032611444422964139455513503376014473628759266092466909996774758091866920654428321756116050083331115653466008641003686350290944,
  34511594046380255634796086872639319455154742216547877348211583040377694109352911283550851208698034785663203418078414243579256519326694742691816393589568966283542443380368990261087505768111575519062917120,
  34292183174614167485588002605884162319491630888843633347351841100900326863341558525359843664598098004542126000788568666924454200464612140816397874127907858983443307072680275375574862659415017307762589696,
  34511594046362468409792155428326296117667838764662029904716215016350930878514033355777950362523390945150660290827754496826407113520212033035791966498287291187933395117051995103373688851503734666261692416,
  34511594046375238836745778737536579992651601844227882605133265001598088824217013864841390897593283027871043990828429638483824083386320890061046962520329868213225559311586380569657455364842518490625605632,
  34292183174619184283638042270235714587387684618756965230275785182778948736217857300334467921711212664301121943117922738143839685495386471028555834979097033509283109956941732957147796462346485336685674496,
  34511594048358536180001865836481808695161716219302817376637459985979327605094966241431746719119727800102010278230910507264854666718859197129178726995163556004986700955220245941620661736381081646220181504,
  34511594048376323405005797280794832032648619671188664820132828011494655833487805386121058671774973786341382832441306345265152756804297675720602296445684279239260731696438889248603247972337308896189218816]
def MS : List Nat := MS0 ++ (MS1 ++ (MS2 ++ (MS3 ++ (MS4 ++ (MS5 ++ (MS6))))))
/-- what one kind tells of another -/
def pos (m n : Nat) : Nat := m - n
def tlC (k j : Kd) : Bool :=
  decide (j.2.2.2 = k.2.2.2) &&
  (if k.2.2.2 = 0 then (decide (j.2.1 = 0) || decide (0 < k.2.1)) && (decide (j.2.2.1 = 0) || decide (0 < k.2.2.1)) && decide (j.1 + (pos j.2.1 k.2.1 + pos j.2.2.1 k.2.2.1) ≤ k.1)
   else if k.2.2.2 = 1 then (decide (j.1 = 0) || decide (0 < k.1)) && (decide (j.2.2.1 = 0) || decide (0 < k.2.2.1)) && decide (j.2.1 + (pos j.1 k.1 + pos j.2.2.1 k.2.2.1) ≤ k.2.1)
   else (decide (j.1 = 0) || decide (0 < k.1)) && (decide (j.2.1 = 0) || decide (0 < k.2.1)) && decide (j.2.2.1 + (pos j.1 k.1 + pos j.2.1 k.2.1) ≤ k.2.2.1))
theorem msk_ok : kinds.map msk = MS := by decide +kernel
theorem pair_ok : ((kinds.zip MS).all fun p => (kinds.zip MS).all fun q => (Nat.land p.2 q.2 == p.2) == tlC p.1 q.1) = true := by decide +kernel
theorem pair_is {k j : Kd} (hk : k ∈ kinds) (hj : j ∈ kinds) : (Nat.land (msk k) (msk j) == msk k) = tlC k j := by
  have e : ∀ {x : Kd}, x ∈ kinds → (x, msk x) ∈ kinds.zip MS := fun {x} hx => by
    rw [← msk_ok]
    obtain ⟨i, hi⟩ := List.mem_iff_getElem?.mp hx
    exact List.mem_iff_getElem?.mpr ⟨i, List.getElem?_zip_eq_some.mpr ⟨hi, by rw [List.getElem?_map, hi]; rfl⟩⟩
  have h := List.all_eq_true.mp (List.all_eq_true.mp pair_ok _ (e hk)) _ (e hj)
  exact eq_of_beq h
end Q75
end
section
set_option Elab.async false
set_option linter.all false
set_option maxRecDepth 1000000
/-! the first numbers of the script, with int() of a text too -/
namespace DL
open PySem L2
local macro_rules | `(tactic| tm_at "dp") => `(tactic| simp only [outP_rt, outP_nx, bind_draw, intOf_e, ownL_z, ownL_s, xApp_e, xPop_e, bind_ret, bind_fail, ofO_some, cVar_z, cVar_s, cVw_z, cVw_w, cVw_o, cVw_s, cC_e, c1_e, c2_e, aN_e, aC_e, cL_e, cCall_e, cMk_e, cIf_e, tB_e, tT_e, tNot_e, tAnd_e, tOr_e, eAnd_e, eOr_e, cNot_e, toB_e, truO_bl, cTup_e, aL_e, cProp_e, cOwn_e, cOwnIn_e, aLc_e, aIt_e, aSort_e, aRg1_e, aZip_e, aEnum_e, aList_e, tSeq_e, tNil_e, tRet_e, tIf_e, tSet_e, oV_e, oL_e, xE_e, tX_e, tAsg_e, tFor_e, tFrz_e, tPar_e, ite_t, ite_f, List.set_cons_zero, List.set_cons_succ, Bool.not_true, Bool.not_false, List.append_nil, ↓reduceIte, wipeS, Bool.and_self, List.cons_append, List.nil_append, Bool.false_eq_true, *])
def B_cells2 : ST := (DL.tSeq (tSet 2 (oOr (aList (c2 sl01 (cVw 0) (cVar 1))) (aL (aC (cC (.int 0)) aN)))) (DL.tSeq (DL.tFor (.tp [(.nm 3), (.nm 4)]) (aEnumA (cSl (cVw 0) (cVar 1) (cC (.int 63)))) (DL.tSeq (tSet 5 (oV (c2 modO (c1 int2O (cVar 3)) (cVar 1)))) (tPut 2 (c2 addO (c2 ixO (cVw 2) (cVar 5)) (c2 mulO (cVar 4) (c2 addO (cVar 3) (cC (.int 2))))) (cVar 5)))) (tRetO 2)))
def F_cells2 : List D → Pg D := runF [] 2 6 B_cells2
theorem e_cells2 {ns : List Int} {t : Nat} (ht : 0 < t) (ht3 : t ≤ 3) (hl : ns.length ≤ 63) : ∃ cs : List Int, F_cells2 [.frl (ns.map D.int), .int (t : Nat)] = .ret (.lst (cs.map D.int)) ∧ 0 < cs.length ∧ cs.length ≤ t := by
  have e1 : sl01 (.frl (ns.map D.int)) (.int (t : Nat)) = some (.lst ((ns.take t).map D.int)) := by
    show some (D.lst (cutD (ns.map D.int) none (some (t : Int)))) = _
    rw [cut_map, cut_take]
  have e2 : slO (.frl (ns.map D.int)) (some (t : Int)) (some 63) = some (.lst ((cutL ns (some (t : Int)) (some 63)).map D.int)) := by
    show some (D.lst (cutD (ns.map D.int) (some (t : Int)) (some 63))) = _
    rw [cut_map]
  have start : ∃ cs : List Int, 0 < cs.length ∧ cs.length ≤ t ∧ (t < ns.length → cs.length = t) ∧ oOr (aList (c2 sl01 (cVw 0) (cVar 1))) (aL (aC (cC (.int 0)) aN)) [.v (.frl (ns.map D.int)), .v (.int (t : Nat)), .e, .e, .e, .e] = .ret (.o (.lst (cs.map D.int))) := by
    have f1 : ∀ l : List D, itemsV (.lst l) = some l := fun _ => rfl
    cases ns with
    | nil =>
      refine ⟨[0], by decide, (by show 1 ≤ t; omega), (fun h => by simp at h), ?_⟩
      show ((ofO (sl01 (.frl (([] : List Int).map D.int)) (.int (t : Nat)))).bind fun x => ofO (itemsV x)).bind _ = _
      rw [e1, List.take_nil]
      rfl
    | cons a r =>
      refine ⟨(a :: r).take t, by rw [List.length_take, List.length_cons]; omega, by rw [List.length_take]; omega, (fun h => by rw [List.length_take]; omega), ?_⟩
      show ((ofO (sl01 (.frl ((a :: r).map D.int)) (.int (t : Nat)))).bind fun x => ofO (itemsV x)).bind _ = _
      rw [e1]
      obtain ⟨t', rfl⟩ : ∃ t', t = t' + 1 := ⟨t - 1, by omega⟩
      rw [List.take_succ_cons]
      rfl
  obtain ⟨cs0, h0, h3, hL, es⟩ := start
  have lp := co_for (b := false) (tg := .tp [.nm 3, .nm 4]) (body := DL.tSeq (tSet 5 (oV (c2 modO (c1 int2O (cVar 3)) (cVar 1)))) (tPut 2 (c2 addO (c2 ixO (cVw 2) (cVar 5)) (c2 mulO (cVar 4) (c2 addO (cVar 3) (cC (.int 2))))) (cVar 5))) (ds := enumD ((cutL ns (some (t : Int)) (some 63)).map D.int)) (I := fun _ Δ => ∃ (cs : List Int) (x3 x4 x5 : Sl), Δ = [.v (.frl (ns.map D.int)), .v (.int (t : Nat)), .o (.lst (cs.map D.int)), x3, x4, x5] ∧ cs.length = cs0.length) 0 0 [.v (.frl (ns.map D.int)), .v (.int (t : Nat)), .o (.lst (cs0.map D.int)), .e, .e, .e] ?_ ⟨cs0, .e, .e, .e, rfl, rfl⟩ (Nat.zero_le _)
  · rw [List.drop_zero] at lp
    obtain ⟨o, e3, Δ', e4, cs, x3, x4, x5, e5, e6⟩ := lp.eq
    subst e4 e5
    refine ⟨cs, ?_, by omega, by omega⟩
    show runF [] 2 6 B_cells2 _ = _
    refine (runF_at [.v (.frl (ns.map D.int)), .v (.int (t : Nat)), .e, .e, .e, .e] rfl rfl).trans ?_
    unfold B_cells2
    show (((oOr (aList (c2 sl01 (cVw 0) (cVar 1))) (aL (aC (cC (.int 0)) aN)) [.v (.frl (ns.map D.int)), .v (.int (t : Nat)), .e, .e, .e, .e]).bind _).bind _).bind _ = _
    rw [es]
    show ((((ofO (slO (.frl (ns.map D.int)) (some (t : Int)) (some 63))).bind _).bind _).bind _).bind _ = _
    rw [e2]
    show (((forP (.tp [.nm 3, .nm 4]) _ (enumD ((cutL ns (some (t : Int)) (some 63)).map D.int)) [.v (.frl (ns.map D.int)), .v (.int (t : Nat)), .o (.lst (cs0.map D.int)), .e, .e, .e]).bind _)).bind _ = _
    rw [e3]
    rfl
  · rintro j d Δ hj ⟨cs, x3, x4, x5, rfl, hc⟩
    obtain ⟨v, hv, rfl⟩ := enum_map' hj
    have h4 : t < ns.length := cutL_from hv
    have hi : j < 63 := by
      have h5 := (List.getElem?_eq_some_iff.mp hv).1
      have h6 := cutL_len ns (some (t : Int)) (some 63)
      omega
    have hcs : cs.length = t := hc.trans (hL h4)
    have hp1 := Int.emod_nonneg (j : Int) (show ((t : Nat) : Int) ≠ 0 by omega)
    have hp2 := Int.emod_lt_of_pos (j : Int) (show (0 : Int) < ((t : Nat) : Int) by omega)
    have hm : ((j : Int) % (t : Nat)).toNat < cs.length := by omega
    have g1 : modO (.int (j : Nat)) (.int (t : Nat)) = some (.int ((j : Int) % (t : Nat))) := if_pos (by omega)
    have g2 : ixO (.lst (cs.map D.int)) (.int ((j : Int) % (t : Nat))) = some (.int cs[((j : Int) % (t : Nat)).toNat]) := by
      have q := ix_lst (f := D.int) (xs := cs) (j := ((j : Int) % (t : Nat)).toNat) (List.getElem?_eq_getElem hm)
      rw [Int.toNat_of_nonneg (by omega)] at q
      exact q
    have g3 : mulO (.int v) (.int ((j : Nat) + 2)) = some (.int (v * ((j : Nat) + 2))) := if_pos (.inl (Nat.ble_eq_true_of_le (by omega)))
    have g4 : L2.ixN (cs.map D.int).length ((j : Int) % (t : Nat)) = some ((j : Int) % (t : Nat)).toNat := ixN_pos' (by omega) (by rw [List.length_map]; omega)
    refine Co.of_eq (a := .nx [.v (.frl (ns.map D.int)), .v (.int (t : Nat)), .o (.lst ((cs.set ((j : Int) % (t : Nat)).toNat (cs[((j : Int) % (t : Nat)).toNat] + v * ((j : Nat) + 2))).map D.int)), .v (.int (j : Nat)), .v (.int v), .v (.int ((j : Int) % (t : Nat)))]) ?_ ⟨_, .inl rfl, _, _, _, _, rfl, by rw [List.length_set]; exact hc⟩
    have g5 : tgS (.tp [.nm 3, .nm 4]) (.tup [.int (j : Nat), .int v]) [.v (.frl (ns.map D.int)), .v (.int (t : Nat)), .o (.lst (cs.map D.int)), x3, x4, x5] = some [.v (.frl (ns.map D.int)), .v (.int (t : Nat)), .o (.lst (cs.map D.int)), .v (.int (j : Nat)), .v (.int v), x5] := rfl
    have g6 : ∀ {i : Nat} {s t : SE} {Δ : List Sl}, tPut i s t Δ = (s Δ).bind fun y => (ofO (ownL Δ i)).bind fun ds => (t Δ).bind fun z => (ofO (intOf z)).bind fun n => (ofO (L2.ixN ds.length n)).bind fun j => .ret (.nx (Δ.set i (.o (.lst (ds.set j y))))) := fun {i s t Δ} => rfl
    have g7 : ∀ a b : Int, addO (.int a) (.int b) = some (.int (a + b)) := fun _ _ => rfl
    have g8 : ∀ a : Int, int2O (.int a) = some (.int a) := fun _ => rfl
    rw [List.map_set]
    clear hv hj e1 e2 es hL h0 h3 hl hc h4 hi hcs
    tm_at "dp"
open PySem L2
end DL
end
section
set_option Elab.async false
set_option linter.all false
set_option maxRecDepth 1000000
set_option maxHeartbeats 1000000
/-! the trees with the pairs (depth, name) of their nodes -/
namespace Pk
open PySem DL L2
/-! dicts of data -/
/-! the trees -/
/-- what stands beneath a depth: trees, the last one first -/
def St := Int → List D
structure Rep (kk : List Key) (ds : List D) (st : St) (n : Nat) : Prop where
  len : kk.length = ds.length
  num : ds.length ≤ n
  val : ∀ k : Int, (valD kk ds (.inl k)).getD (.lst []) = .lst (st k)
  few : ∀ k : Int, (st k).length ≤ n
end Pk
end
section
set_option Elab.async false
set_option linter.all false
set_option maxRecDepth 1000000
set_option maxHeartbeats 1000000
/-! forests, by first tree and those behind it -/
namespace Pk
open PySem DL L2
inductive Fo where
  | nil : Fo
  | cons (name : Str) (parts rest : Fo) : Fo
/-! rows that are those of a forest -/
end Pk
end
section
set_option Elab.async false
set_option linter.all false
set_option maxRecDepth 1000000
set_option maxHeartbeats 1000000
/-! Forest: typed readings of its makers -/
namespace Pk
open PySem DL L2
/-- a Forest of the program: the pairs (depth, name) of its nodes -/
structure For where
  rows : List (Int × Str)
instance : Inhabited For := ⟨⟨[]⟩⟩
instance : Inhabited Fo := ⟨.nil⟩
end Pk
end
section
set_option Elab.async false
set_option linter.all false
set_option maxRecDepth 1000000
set_option maxHeartbeats 1000000
/-! Forest: check, above -/
namespace Pk
open PySem DL L2
variable {f : For}
/-- the places above, the nearest first -/
def ancP (rows : List (Int × Str)) : Nat → Int → List Int
  | 0, _ => []
  | n + 1, d => match rows[n]? with
    | some q => if q.1 < d then (n : Int) :: ancP rows n q.1 else ancP rows n d
    | none => ancP rows n d
end Pk
end
section
set_option Elab.async false
set_option linter.all false
set_option maxRecDepth 1000000
set_option maxHeartbeats 1000000
/-! Forest.only -/
namespace Pk
open PySem DL L2
variable {f : For}
/-- open depths: those from d on are let go -/
def popD (d : Int) (S : List Int) : List Int := (S.reverse.dropWhile fun x => decide (d ≤ x)).reverse
/-- one node of those that are kept: open depths, rows so far -/
def onlyS (ps : List Int) (z : List Int × List (Int × Str)) (q : Int × Int × Str) : List Int × List (Int × Str) :=
  if q.1 ∈ ps then (popD q.2.1 z.1 ++ [q.2.1], z.2 ++ [(((popD q.2.1 z.1).length : Int) + 1, q.2.2)]) else (popD q.2.1 z.1, z.2)
end Pk
end
section
set_option Elab.async false
set_option linter.all false
set_option maxRecDepth 1000000
set_option maxHeartbeats 1000000
/-! paths of the nodes of rows, and of those that are kept -/
namespace Pk
open PySem DL L2
section
variable {rows : List (Int × Str)}
/-- the depth at a place -/
def dp (rows : List (Int × Str)) (i : Int) : Int := (ixD rows i).1
/-! nodes that are kept -/
def keptB (ps : List Int) (i : Int) : Bool := decide (i ∈ ps)
/-- the number of a kept place -/
def rankP (ps : List Int) (i : Int) : Int := (((List.range i.toNat).filter fun (j : Nat) => decide ((j : Int) ∈ ps)).length : Nat)
def stO (ps : List Int) (rows : List (Int × Str)) (n : Nat) : List Int × List (Int × Str) := (enumL (rows.take n)).foldl (onlyS ps) ([], [])
structure OnlyI (ps : List Int) (rows : List (Int × Str)) (n : Nat) : Prop where
  stk : ∀ d, popD d (stO ps rows n).1 = ((ancP rows n d).reverse.filter (keptB ps)).map (dp rows)
  len : ((stO ps rows n).2.length : Int) = rankP ps (n : Int)
  anc : ∀ d, ancP (stO ps rows n).2 (stO ps rows n).2.length (((popD d (stO ps rows n).1).length : Int) + 1) = ((ancP rows n d).filter (keptB ps)).map (rankP ps)
end
end Pk
end
section
set_option Elab.async false
set_option linter.all false
set_option maxRecDepth 100000
set_option maxHeartbeats 1000000
/-! what the forms of pipelines tell: plain theory -/
namespace Pk
open PySem DL L2
/-! ### names -/
/-! ### rooms -/
def Most : Room → Room → Prop
  | _, none => True
  | none, some _ => False
  | some a, some b => a ≤ b
/-! ### fates of labels -/
abbrev Fate := Str → Option Str × Room
def restv (r : Bool × Room) (k : Str) : Option Str × Room := (if r.1 = true then some k else none, r.2)
def NOTH : Form := ([], false, some 0)
noncomputable abbrev ev (f : Form) : Fate := f_entry_in f
theorem loop_ent (k : Str) : ∀ es : List Ent, loopP (f_entry_in_1 k) es () = match es.find? (fun e => decide (e.1 = k)) with | some e => .inr e.2 | none => .inl ()
  | [] => rfl
  | e :: es => by
    unfold loopP
    rw [List.find?_cons]
    have h1 : f_entry_in_1 k () e = (if decide (e.1 = k) = true then Sum.inr (e.2.1, e.2.2) else Sum.inl ()) := rfl
    rw [h1]
    cases h : decide (e.1 = k) with
    | true => rfl
    | false => exact loop_ent k es
theorem ev_at (f : Form) (k : Str) : ev f k = match f.1.find? (fun e => decide (e.1 = k)) with | some e => e.2 | none => restv f.2 k := by
  show Sum.elim _ _ (loopP (f_entry_in_1 k) f.1 ()) = _
  rw [loop_ent]
  cases f.1.find? (fun e => decide (e.1 = k)) <;> rfl
theorem ev_of {f : Form} {e : Ent} (hn : (f.1.map (·.1)).Nodup) (h : e ∈ f.1) : ev f e.1 = e.2 := by
  rw [ev_at]
  have : ∀ es : List Ent, (es.map (·.1)).Nodup → e ∈ es → es.find? (fun x => decide (x.1 = e.1)) = some e := by
    intro es
    induction es with
    | nil => intro _ h; cases h
    | cons x es ih =>
      intro nd h
      rw [List.map_cons, List.nodup_cons] at nd
      rw [List.find?_cons]
      rcases List.mem_cons.mp h with rfl | h
      · rw [decide_eq_true rfl]
      · have : x.1 ≠ e.1 := fun q => nd.1 (by rw [q]; exact List.mem_map.mpr ⟨e, h, rfl⟩)
        rw [decide_eq_false this]
        exact ih nd.2 h
  rw [this f.1 hn h]
theorem ev_not {f : Form} {k : Str} (h : k ∉ f.1.map (·.1)) : ev f k = restv f.2 k := by
  rw [ev_at, List.find?_eq_none.mpr fun e he => by
    rw [decide_eq_true_eq]
    exact fun q => h (by rw [← q]; exact List.mem_map.mpr ⟨e, he, rfl⟩)]
/-- the form is as it should be -/
structure Nf (f : Form) : Prop where
  sp : SP (f.1.map (·.1))
  ne : ∀ e ∈ f.1, e.2 ≠ restv f.2 e.1
  bare : f.2.1 = false → (∀ e ∈ f.1, e.2.1 = none) → f = NOTH
theorem Nf.nd {f : Form} (h : Nf f) : (f.1.map (·.1)).Nodup := h.sp.imp fun {a b} hab e => by
  rw [e] at hab
  exact absurd hab (by rw [lts_irr]; decide)
/-! ### a table to a form -/
end Pk
end
section
set_option Elab.async false
set_option linter.all false
set_option maxRecDepth 100000
set_option maxHeartbeats 1000000
namespace Pk
open PySem DL L2
/-! ### forms over a pool of names -/
structure Pool (P : List Str) : Prop where
  len : P.length < 60
  ok : ∀ x ∈ P, PySem.PyData.strOk x = true
structure Gd (P : List Str) (f : Form) : Prop where
  nf : Nf f
  keys : ∀ e ∈ f.1, e.1 ∈ P
  lasts : ∀ e ∈ f.1, ∀ n, e.2.1 = some n → n ∈ P
  ht : ∃ h, ∀ k, (ev f k).1 ≠ none → (ev f k).2 = h
section
variable {P : List Str} {f A B : Form} {ns : List Str} {g : Fate} {r : Bool × Room}
theorem nodup_len : ∀ {xs ys : List Str}, xs.Nodup → (∀ x ∈ xs, x ∈ ys) → xs.length ≤ ys.length
  | [], _, _, _ => Nat.zero_le _
  | x :: xs, ys, nd, h => by
    have nd := List.nodup_cons.mp nd
    have h1 : x ∈ ys := h x (List.mem_cons_self ..)
    have := nodup_len (xs := xs) (ys := ys.erase x) nd.2 fun z hz => (List.mem_erase_of_ne fun e => nd.1 (by rw [← e]; exact hz)).mpr (h z (List.mem_cons_of_mem _ hz))
    rw [List.length_erase_of_mem h1] at this
    have := List.length_pos_of_mem h1
    rw [List.length_cons]; omega
theorem Gd.len (hP : Pool P) (h : Gd P f) : f.1.length < 60 := by
  have := nodup_len (ys := P) h.nf.nd fun x hx => by
    obtain ⟨e, he, rfl⟩ := List.mem_map.mp hx
    exact h.keys e he
  rw [List.length_map] at this
  have := hP.len
  omega
theorem Gd.last (h : Gd P f) {k n : Str} (e : (ev f k).1 = some n) : n ∈ P ∨ n = k := by
  by_cases hk : k ∈ f.1.map (·.1)
  · obtain ⟨x, hx, rfl⟩ := List.mem_map.mp hk
    rw [ev_of h.nf.nd hx] at e
    exact .inl (h.lasts x hx n e)
  · rw [ev_not hk] at e
    unfold restv at e
    split at e
    · exact .inr (Option.some.inj e).symm
    · cases e
/-! height -/
/-! one behind another -/
end
end Pk
end
section
set_option Elab.async false
set_option linter.all false
set_option maxRecDepth 100000
set_option maxHeartbeats 1000000
namespace Pk
open PySem DL L2
/-! ### steps -/
inductive Deed where
  | cut (n : Int) | lab (drop : Bool) (l : Lab) | ren (ps : List (Str × Str))
def Deed.names : Deed → List Str
  | .cut _ => []
  | .lab _ l => l.names
  | .ren ps => ps.map (·.1) ++ ps.map (·.2)
structure DOk (P : List Str) (d : Deed) : Prop where
  nm : ∀ k ∈ d.names, k ∈ P
  cut : ∀ n, d = .cut n → 1 ≤ n
  len : ∀ b l, d = .lab b l → l.names.length < 1000
  ren : ∀ ps, d = .ren ps → (ps.map (·.1)).Nodup
section
variable {P : List Str}
/-! rows of steps -/
/-! following one label -/
end
end Pk
end
section
set_option Elab.async false
set_option linter.all false
set_option maxRecDepth 100000
set_option maxHeartbeats 1000000
/-! deeds as laws tell them, however they write them -/
namespace Pk
open PySem DL L2
inductive Raw where
  | cut (n : Int) | lab (drop : Bool) (ns : List Str) (r : Bool) | ren (ps : List (Str × Str))
structure ROk (T : List Str) (r : Raw) : Prop where
  cut : ∀ n, r = .cut n → 1 ≤ n
  lab : ∀ d ns b, r = .lab d ns b → (∀ x ∈ ns, x ∈ T) ∧ ns.length < 900
  ren : ∀ ps, r = .ren ps → (ps.map (·.1)).Nodup ∧ ps.length < 60 ∧ ∀ p ∈ ps, p.1 ∈ T ∧ p.2 ∈ T
section
variable {T P : List Str} {rs : List Raw} {r : Raw}
end
/-! ### tables: fates that are all alike outside of some names -/
section
variable {T P : List Str} {rs : List Raw} {a b : Fate} {z : Str}
end
end Pk
end
section
set_option Elab.async false
set_option linter.all false
set_option maxRecDepth 100000
set_option maxHeartbeats 1000000
namespace Pk
open PySem DL L2
/-! ### the plain Pipeline of a FORM -/
def Nn (r : Room) : Prop := ∀ n, r = some n → 0 ≤ n
/-- what a FORM's rooms are, beside Gd -/
structure Fm (f : Form) : Prop where
  hn : Nn (f_height_in f)
  gone : ∀ k, (ev f k).1 = none → (ev f k).2 = some 0 ∨ Most (f_height_in f) (ev f k).2
section
variable {P : List Str} {f : Form}
/-! the labels that go with a room -/
end
end Pk
end
section
set_option Elab.async false
set_option linter.all false
set_option maxRecDepth 100000
set_option maxHeartbeats 1000000
namespace Pk
open PySem DL L2
/-! ### how long texts are -/
/-! ### texts of steps -/
/-- what is short enough to be told -/
structure DT (P : List Str) (d : Deed) : Prop where
  ok : DOk P d
  cut : ∀ n, d = .cut n → n ≤ 1002
  lab : ∀ b l, d = .lab b l → l.names.length ≤ 60
  ren : ∀ ps, d = .ren ps → ps.length ≤ 60
section
variable {P : List Str} {f : Form}
end
end Pk
end
section
set_option Elab.async false
set_option linter.all false
set_option maxRecDepth 100000
set_option maxHeartbeats 1000000
namespace Pk
open PySem DL L2
/-! ### small steps of programs -/
section
variable {Δ : List Sl} {s t : SE} {c : SB} {A S : ST} {d : D} {o : Pg Out}
end
/-! ### texts -/
/-! ### names -/
/-- NAMEs: what the program's own readings say of them, and their signs -/
structure Nms (P : List Str) : Prop where
  nm : ∀ x ∈ P, F_is_name [eS x] = .ret (eB true)
  ok : ∀ x ∈ P, PySem.PyData.strOk x = true
  sg : ∀ x ∈ P, (∀ c ∈ TL.tl x, 97 ≤ c ∧ c ≤ 122) ∧ x.length ≤ 8 ∧ 0 < x.length
theorem Nms.free {P : List Str} (h : Nms P) {x : Str} (hx : x ∈ P) {s : Nat} (hs : s < 97) : s ∉ TL.tl x := fun q => by
  have := ((h.sg x hx).1 s q).1
  omega
section
variable {P : List Str}
/-! ### Labels -/
/-! ### numbers -/
/-! ### pairs -/
end
end Pk
end
section
set_option Elab.async false
set_option linter.all false
set_option maxRecDepth 100000
set_option maxHeartbeats 1000000
namespace Pk
open PySem DL L2
/-! ### steps and Pipelines of their texts -/
/-- deeds as a law writes them: in plain order -/
structure DW (P : List Str) (d : Deed) : Prop where
  cut : ∀ n, d = .cut n → 1 ≤ n ∧ n < 10 ^ 100
  lab : ∀ b l, d = .lab b l → (∀ x ∈ l.names, x ∈ P) ∧ DL.SP l.names ∧ l.names.length ≤ 60
  ren : ∀ ps, d = .ren ps → (∀ p ∈ ps, p.1 ∈ P ∧ p.2 ∈ P ∧ p.1 ≠ p.2) ∧ DL.SP (ps.map (·.1)) ∧ ps.length < 60
section
variable {P : List Str}
end
end Pk
end
section
set_option Elab.async false
set_option linter.all false
set_option maxRecDepth 100000
set_option maxHeartbeats 1000000
/-! deeds in plain order, as rows of a law: (kind, what) -/
namespace Pk
open PySem DL L2
def Deed.row : Deed → Str × D
  | .cut n => ("cut", eI n)
  | .lab true l => ("drop", e2 (eT eS) eB (l.names, l.rest))
  | .lab false l => ("unwrap", e2 (eT eS) eB (l.names, l.rest))
  | .ren ps => ("rename", ePs ps)
abbrev mat (ds : List Deed) : List (Str × D) := ds.map Deed.row
section
variable {P : List Str} {ds : List Deed} {d : Deed}
end
end Pk
end
section
set_option Elab.async false
set_option linter.all false
set_option maxRecDepth 100000
set_option maxHeartbeats 1000000
/-! drawn deeds in plain order -/
namespace Pk
open PySem DL L2
theorem DW.mono {T P : List Str} {d : Deed} (h : DW T d) (hs : ∀ x ∈ T, x ∈ P) : DW P d where
  cut := h.cut
  lab := fun b l e => ⟨fun x hx => hs x ((h.lab b l e).1 x hx), (h.lab b l e).2⟩
  ren := fun ps e => ⟨fun p hp => ⟨hs _ ((h.ren ps e).1 p hp).1, hs _ ((h.ren ps e).1 p hp).2.1, ((h.ren ps e).1 p hp).2.2⟩, (h.ren ps e).2⟩
/-- up to n deeds over names of T, as rows -/
def Mo (Q : Deed → Prop) (T : List Str) (n : Nat) (m : List (Str × D)) : Prop := ∃ ds, m = mat ds ∧ ds.length ≤ n ∧ ∀ d ∈ ds, DW T d ∧ Q d
theorem Mo.len {Q : Deed → Prop} {T : List Str} {n : Nat} {m : List (Str × D)} (h : Mo Q T n m) : m.length ≤ n := by
  obtain ⟨ds, rfl, l, _⟩ := h
  rw [List.length_map]; exact l
theorem Mo.mono {Q R : Deed → Prop} {T P : List Str} {n k : Nat} {m : List (Str × D)} (h : Mo Q T n m) (hs : ∀ x ∈ T, x ∈ P) (hq : ∀ d, Q d → R d) (hn : n ≤ k) : Mo R P k m := by
  obtain ⟨ds, e, l, q⟩ := h
  exact ⟨ds, e, Nat.le_trans l hn, fun d hd => ⟨(q d hd).1.mono hs, hq d (q d hd).2⟩⟩
end Pk
end
section
set_option Elab.async false
set_option linter.all false
set_option maxRecDepth 1000000
set_option maxHeartbeats 1000000
namespace Q75
open PySem DL L2 Pk
/-! what one path tells of another -/
def exc (a b : List Str) (x : Str) : Int := max 0 ((b.count x : Int) - (a.count x : Int))
def oth (l : Str) (b : List Str) : List Str := ss (b.filter fun y => !decide (y = l))
/-- what one path tells of another: its nodes above, its last one -/
def Tl (a : List Str) (l : Str) (b : List Str) (m : Str) : Prop := m = l ∧ (∀ x ∈ b, x ≠ l → x ∈ a) ∧ (b.count l : Int) + ((oth l b).map (exc a b)).sum ≤ (a.count l : Int)
theorem mem_oth {l x : Str} {b : List Str} : x ∈ oth l b ↔ x ∈ b ∧ x ≠ l := by
  unfold oth
  rw [mem_ss, List.mem_filter]
  simp
theorem sp_nodup {xs : List Str} (h : SP xs) : xs.Nodup := h.imp fun {a b} hab e => by
  subst e
  rw [lts_irr] at hab
  cases hab
theorem nodup_oth (l : Str) (b : List Str) : (oth l b).Nodup := sp_nodup (sp_ss _)
theorem drop_app (a : List Str) (l : Str) : (a ++ [l]).dropLast = a := by simp
theorem oft (a : List Str) (l : Str) : f_often_above (a ++ [l]) = dcm a (fun y => (a.count y : Int)) [] := by
  unfold f_often_above dcm
  rw [drop_app, List.filter_eq_self.mpr (fun _ _ => rfl)]
theorem kget_oft (a : List Str) (l x : Str) : kget (f_often_above (a ++ [l])) x = if x ∈ a then some (a.count x : Int) else none := by
  rw [oft, kget_dcm]
  rfl
theorem getD_oft (a : List Str) (l x : Str) : (kget (f_often_above (a ++ [l])) x).getD 0 = (a.count x : Int) := by
  rw [kget_oft]
  by_cases h : x ∈ a
  · simp [h]
  · simp [h, List.count_eq_zero_of_not_mem h]
theorem path_tells (a : List Str) (l : Str) (b : List Str) (m : Str) : f_path_tells (a ++ [l]) (b ++ [m]) = true ↔ Tl a l b m := by
  unfold f_path_tells f_more_above Tl
  simp only [id, DL.ixD_last, getD_oft]
  have hkm : ∀ x, x ∈ (f_often_above (b ++ [m])).map (fun p => p.1) ↔ x ∈ b := fun x => by
    have := mem_keys (m := f_often_above (b ++ [m])) (x := x)
    rw [kget_oft] at this
    refine this.trans ?_
    by_cases h : x ∈ b <;> simp [h]
  have hks : ∀ x, (kget (f_often_above (a ++ [l])) x).isSome = decide (x ∈ a) := fun x => by
    rw [kget_oft]
    by_cases h : x ∈ a <;> simp [h]
  have hnd : ((f_often_above (b ++ [m])).map (fun p => p.1)).Nodup := by rw [oft]; exact nodup_dcm _ _ (by simp)
  generalize hK : (f_often_above (b ++ [m])).map (fun p => p.1) = K at *
  by_cases h1 : m = l
  · subst h1
    by_cases h2 : ∀ x ∈ b, x ≠ m → x ∈ a
    · have hf : (((K.filter fun y => !decide (y = m)).map fun y => !(kget (f_often_above (a ++ [m])) y).isSome).any id) = false := by
        rw [List.any_eq_false]
        intro x hx
        obtain ⟨y, hy, rfl⟩ := List.mem_map.mp hx
        obtain ⟨hy1, hy2⟩ := List.mem_filter.mp hy
        have hm : y ≠ m := by simpa using hy2
        simp [hks, h2 y ((hkm y).mp hy1) hm]
      rw [hf]
      have hs : ((K.filter fun y => (!decide (y = m)) && decide ((a.count y : Int) < (kget (f_often_above (b ++ [m])) y).getD default)).map fun y => (kget (f_often_above (b ++ [m])) y).getD default - (a.count y : Int)).sum = ((oth m b).map (exc a b)).sum := by
        have e1 : ∀ y ∈ K, (kget (f_often_above (b ++ [m])) y).getD default = (b.count y : Int) := fun y hy => by
          rw [kget_oft, if_pos ((hkm y).mp hy)]; rfl
        have e2 : (K.filter fun y => (!decide (y = m)) && decide ((a.count y : Int) < (kget (f_often_above (b ++ [m])) y).getD default)) = (K.filter fun y => !decide (y = m)).filter fun y => decide ((a.count y : Int) < (b.count y : Int)) := by
          rw [List.filter_filter]
          refine List.filter_congr fun y hy => ?_
          rw [e1 y hy, Bool.and_comm]
        rw [e2]
        have e3 : (((K.filter fun y => !decide (y = m)).filter fun y => decide ((a.count y : Int) < (b.count y : Int))).map fun y => (kget (f_often_above (b ++ [m])) y).getD default - (a.count y : Int)) = (((K.filter fun y => !decide (y = m)).filter fun y => decide ((a.count y : Int) < (b.count y : Int))).map (exc a b)) := by
          refine List.map_congr_left fun y hy => ?_
          obtain ⟨h3, h4⟩ := List.mem_filter.mp hy
          obtain ⟨h5, h6⟩ := List.mem_filter.mp h3
          rw [e1 y h5]
          unfold exc
          have : (a.count y : Int) < (b.count y : Int) := by simpa using h4
          omega
        rw [e3, sum_filter]
        · refine sum_perm (List.Perm.map _ (perm_of (filter_nodup hnd) (nodup_oth m b) fun y => ?_))
          rw [List.mem_filter, mem_oth, hkm]
          simp
        · intro y _ hy
          unfold exc
          have : ¬ (a.count y : Int) < (b.count y : Int) := by simpa using hy
          omega
      rw [hs, if_neg (by simp), decide_eq_true_iff]
      exact ⟨fun h => ⟨rfl, h2, h⟩, fun h => h.2.2⟩
    · have hf : (((K.filter fun y => !decide (y = m)).map fun y => !(kget (f_often_above (a ++ [m])) y).isSome).any id) = true := by
        refine Classical.byContradiction fun hc => h2 fun x hx hm => ?_
        have hc : (((K.filter fun y => !decide (y = m)).map fun y => !(kget (f_often_above (a ++ [m])) y).isSome).any id) = false := by simpa using hc
        rw [List.any_eq_false] at hc
        have := hc _ (List.mem_map.mpr ⟨x, List.mem_filter.mpr ⟨(hkm x).mpr hx, by simp [hm]⟩, rfl⟩)
        simpa [hks] using this
      rw [hf, if_pos (by simp)]
      simp [h2]
  · simp [h1]
section
variable {a b : List Str} {l m : Str}
theorem keys_len (b : List Str) (m : Str) : ((f_often_above (b ++ [m])).map (fun p => p.1)).length ≤ b.length := by
  rw [oft, List.length_map]
  have := len_dcm (f := fun y => (b.count y : Int)) b []
  simpa using this
theorem ok_oft (hl : a.length ≤ 1000) : vc_often_above (a ++ [l]) := ⟨by rw [drop_app]; exact lim_le (by omega), fun _ _ _ => by simp⟩
theorem ok_tells (ha : a.length ≤ 1000) (hb : b.length ≤ 1000) : vc_path_tells (a ++ [l]) (b ++ [m]) := by
  have hks : ∀ y ∈ (f_often_above (b ++ [m])).map (fun p => p.1), (kget (f_often_above (b ++ [m])) y).isSome = true := fun y hy => mem_keys.mp hy
  have kl := keys_len b m
  have sz : ∀ (a : List Str) (l : Str), a.length ≤ 1000 → sz1 (a ++ [l]) := fun a l h => lim_le (by rw [List.length_append, List.length_singleton]; omega)
  refine ⟨⟨sz a l ha, sz b m hb⟩, ⟨ok_oft ha, ok_oft hb, by simp only [id]; rw [DL.atI_last]; rfl⟩, ⟨by simp only [id]; rw [DL.atI_last]; rfl, fun _ => ?_⟩, fun _ => ⟨⟨?_, ?_⟩, ?_, ?_⟩⟩
  · exact lim_le (by simp only [id]; omega)
  · exact lim_le (by simp only [id]; omega)
  · intro y hy _; exact hks y hy
  · have h1 : (f_more_above (f_often_above (id (a ++ [l]))) (f_often_above (id (b ++ [m]))) (ixD (id (a ++ [l])) (-1 : Int))).length ≤ b.length := by
      unfold f_more_above
      exact Nat.le_trans (List.length_filter_le _ _) (keys_len b m)
    exact lim_le (by omega)
  · intro y hy
    unfold f_more_above at hy
    exact hks y (List.mem_filter.mp hy).1
end
end Q75
end
section
set_option Elab.async false
set_option linter.all false
set_option maxRecDepth 1000000
set_option maxHeartbeats 1000000
/-! k75: paths by their kinds -/
namespace Q75
open PySem DL L2 Pk
theorem land_bit (m n : Nat) (b c : Bool) : Nat.land (2 * m + b.toNat) (2 * n + c.toNat) = 2 * Nat.land m n + (b && c).toNat := by
  refine Nat.eq_of_testBit_eq fun i => ?_
  show ((2 * m + b.toNat) &&& (2 * n + c.toNat)).testBit i = (2 * (m &&& n) + (b && c).toNat).testBit i
  rw [Nat.testBit_and]
  cases i with
  | zero =>
    rw [Nat.testBit_zero, Nat.testBit_zero, Nat.testBit_zero]
    have e : ∀ (x : Nat) (b : Bool), decide ((2 * x + b.toNat) % 2 = 1) = b := fun x b => by
      cases b
      · rw [show (2 * x + false.toNat) % 2 = 0 from by show (2 * x + 0) % 2 = 0; omega]; rfl
      · rw [show (2 * x + true.toNat) % 2 = 1 from by show (2 * x + 1) % 2 = 1; omega]; rfl
    rw [e, e, e]
  | succ i =>
    rw [Nat.testBit_succ, Nat.testBit_succ, Nat.testBit_succ]
    have e : ∀ (x : Nat) (b : Bool), (2 * x + b.toNat) / 2 = x := fun x b => by
      cases b
      · show (2 * x + 0) / 2 = x; omega
      · show (2 * x + 1) / 2 = x; omega
    rw [e, e, e, Nat.testBit_and]
theorem land_bits {α : Type} (p q : α → Bool) : ∀ xs : List α, Nat.land (bits p xs) (bits q xs) = bits (fun x => p x && q x) xs
  | [] => by show ((0 : Nat) &&& 0) = 0; simp
  | x :: xs => by
    show Nat.land (2 * bits p xs + (p x).toNat) (2 * bits q xs + (q x).toNat) = 2 * bits (fun x => p x && q x) xs + (p x && q x).toNat
    rw [land_bit, land_bits p q xs]
theorem bits_eq {α : Type} (p q : α → Bool) : ∀ xs : List α, bits p xs = bits q xs ↔ ∀ x ∈ xs, p x = q x
  | [] => ⟨(fun _ x hx => nomatch hx), (fun _ => rfl)⟩
  | x :: xs => by
    show 2 * bits p xs + (p x).toNat = 2 * bits q xs + (q x).toNat ↔ _
    have ih := bits_eq p q xs
    constructor
    · intro h
      have key : ∀ (m n : Nat) (b c : Bool), 2 * m + b.toNat = 2 * n + c.toNat → b.toNat = c.toNat ∧ m = n := fun m n b c h => by
        have hb : b.toNat ≤ 1 := by cases b <;> decide
        have hc : c.toNat ≤ 1 := by cases c <;> decide
        omega
      have h1 := key _ _ _ _ h
      intro y hy
      rcases List.mem_cons.mp hy with rfl | hy
      · have := h1.1
        revert this
        cases p y <;> cases q y <;> simp
      · exact ih.mp h1.2 y hy
    · intro h
      rw [ih.mpr fun y hy => h y (List.mem_cons_of_mem _ hy), h x (List.mem_cons_self ..)]
/-! kinds -/
def kd (a : List Str) (l : Nat) : Kd := (a.count ("a" : Str), a.count ("b" : Str), a.count ("c" : Str), l)
def inA (a : List Str) : Prop := ∀ x ∈ a, x = ("a" : Str) ∨ x = ("b" : Str) ∨ x = ("c" : Str)
theorem ab_ne : ("a" : Str) ≠ "b" ∧ ("a" : Str) ≠ "c" ∧ ("b" : Str) ≠ "c" := by decide
theorem len_counts : ∀ {a : List Str}, inA a → a.count ("a" : Str) + a.count ("b" : Str) + a.count ("c" : Str) = a.length
  | [], _ => rfl
  | x :: a, h => by
    have ih := len_counts (a := a) fun y hy => h y (List.mem_cons_of_mem _ hy)
    obtain ⟨n1, n2, n3⟩ := ab_ne
    rcases h x (List.mem_cons_self ..) with rfl | rfl | rfl
    · rw [List.count_cons_self, List.count_cons_of_ne (by simpa using n1), List.count_cons_of_ne (by simpa using n2), List.length_cons]; omega
    · rw [List.count_cons_self, List.count_cons_of_ne (by simpa using n1.symm), List.count_cons_of_ne (by simpa using n3), List.length_cons]; omega
    · rw [List.count_cons_self, List.count_cons_of_ne (by simpa using n2.symm), List.count_cons_of_ne (by simpa using n3.symm), List.length_cons]; omega
theorem kd_mem {a : List Str} {l : Nat} (h : inA a) (hl : a.length ≤ 4) (h3 : l < 3) : kd a l ∈ kinds := by
  have := len_counts h
  unfold kinds kd
  refine List.mem_flatMap.mpr ⟨a.count ("a" : Str), List.mem_range.mpr (by omega), List.mem_flatMap.mpr ⟨a.count ("b" : Str), List.mem_range.mpr (by omega), List.mem_flatMap.mpr ⟨a.count ("c" : Str), List.mem_range.mpr (by omega), List.mem_map.mpr ⟨l, List.mem_range.mpr h3, rfl⟩⟩⟩⟩
theorem perm_can {a : List Str} (h : inA a) (l : Nat) : a.Perm (can (kd a l)) := by
  refine List.perm_iff_count.mpr fun x => ?_
  obtain ⟨n1, n2, n3⟩ := ab_ne
  unfold can kd
  dsimp only
  rw [List.count_append, List.count_append, List.count_replicate, List.count_replicate, List.count_replicate]
  by_cases e1 : x = ("a" : Str)
  · subst e1
    rw [if_pos (by simp), if_neg (by simpa using n1.symm), if_neg (by simpa using n2.symm)]; omega
  · by_cases e2 : x = ("b" : Str)
    · subst e2
      rw [if_neg (by simpa using n1), if_pos (by simp), if_neg (by simpa using n3.symm)]; omega
    · by_cases e3 : x = ("c" : Str)
      · subst e3
        rw [if_neg (by simpa using n2), if_neg (by simpa using n3), if_pos (by simp)]; omega
      · rw [if_neg (by simpa using Ne.symm e1), if_neg (by simpa using Ne.symm e2), if_neg (by simpa using Ne.symm e3)]
        exact List.count_eq_zero_of_not_mem fun hx => by
          rcases h x hx with q | q | q
          · exact e1 q
          · exact e2 q
          · exact e3 q
theorem ends_perm {s : Sta} {a b : List Str} {x : Str} (h : a.Perm b) : endsF s (a ++ [x]) = endsF s (b ++ [x]) := by
  unfold endsF endsR
  rw [DL.ixD_last, DL.ixD_last, drop_app, drop_app]
  have e : sortI ((a.filter fun y => !((kget s.1 y).getD default).isNone).map fun y => ((kget s.1 y).getD default).getD 0) = sortI ((b.filter fun y => !((kget s.1 y).getD default).isNone).map fun y => ((kget s.1 y).getD default).getD 0) :=
    sortI_of ((sortI_perm _).trans ((h.filter _).map _)) (sortI_pw _)
  rw [e]
theorem ends_kd {s : Sta} {a : List Str} (h : inA a) (l : Nat) : endsF s (a ++ [lst l]) = endsF s (row (kd a l)) := ends_perm (perm_can h l)
theorem lst_of {x : Str} (h : x = ("a" : Str) ∨ x = ("b" : Str) ∨ x = ("c" : Str)) : ∃ l, l < 3 ∧ lst l = x := by
  rcases h with rfl | rfl | rfl
  · exact ⟨0, by decide, rfl⟩
  · exact ⟨1, by decide, rfl⟩
  · exact ⟨2, by decide, rfl⟩
theorem lst_inj {l m : Nat} (h1 : l < 3) (h2 : m < 3) (e : lst l = lst m) : l = m := by
  have : l = 0 ∨ l = 1 ∨ l = 2 := by omega
  have : m = 0 ∨ m = 1 ∨ m = 2 := by omega
  rcases ‹l = 0 ∨ l = 1 ∨ l = 2› with rfl | rfl | rfl <;> rcases ‹m = 0 ∨ m = 1 ∨ m = 2› with rfl | rfl | rfl <;> first | rfl | exact absurd e (by decide)
/-- the sum over the other labels -/
theorem sum_oth {a b : List Str} (hb : inA b) {l x y : Str} (hl : (l = ("a" : Str) ∧ x = ("b" : Str) ∧ y = ("c" : Str)) ∨ (l = ("b" : Str) ∧ x = ("a" : Str) ∧ y = ("c" : Str)) ∨ (l = ("c" : Str) ∧ x = ("a" : Str) ∧ y = ("b" : Str))) : ((oth l b).map (exc a b)).sum = exc a b x + exc a b y := by
  have xy : x ≠ y ∧ l ≠ x ∧ l ≠ y ∧ ∀ z, (z = ("a" : Str) ∨ z = ("b" : Str) ∨ z = ("c" : Str)) → z ≠ l → z = x ∨ z = y := by
    obtain ⟨n1, n2, n3⟩ := ab_ne
    rcases hl with ⟨rfl, rfl, rfl⟩ | ⟨rfl, rfl, rfl⟩ | ⟨rfl, rfl, rfl⟩
    · exact ⟨n3, n1, n2, fun z h q => h.elim (fun e => absurd e q) fun h => h⟩
    · exact ⟨n2, n1.symm, n3, fun z h q => h.elim .inl fun h => h.elim (fun e => absurd e q) .inr⟩
    · exact ⟨n1, n2.symm, n3.symm, fun z h q => h.elim .inl fun h => h.elim .inr fun e => absurd e q⟩
  obtain ⟨hxy, lx, ly, cov⟩ := xy
  have z0 : ∀ z, z ∉ b → exc a b z = 0 := fun z hz => by
    unfold exc
    rw [List.count_eq_zero_of_not_mem hz]; omega
  have p : ((oth l b).map (exc a b)).sum = (([x, y].filter fun z => decide (z ∈ b)).map (exc a b)).sum := by
    refine sum_perm (List.Perm.map _ (perm_of (nodup_oth l b) (filter_nodup (by simp [hxy])) fun z => ?_))
    rw [mem_oth, List.mem_filter, decide_eq_true_iff]
    constructor
    · rintro ⟨h1, h2⟩
      rcases cov z (hb z h1) h2 with rfl | rfl
      · exact ⟨by simp, h1⟩
      · exact ⟨by simp, h1⟩
    · rintro ⟨h1, h2⟩
      simp only [List.mem_cons, List.not_mem_nil, or_false] at h1
      rcases h1 with rfl | rfl
      · exact ⟨h2, lx.symm⟩
      · exact ⟨h2, ly.symm⟩
  rw [p]
  by_cases hx : x ∈ b
  · by_cases hy : y ∈ b
    · simp [hx, hy]
    · simp [hx, hy, z0 y hy]
  · by_cases hy : y ∈ b
    · simp [hx, hy, z0 x hx]
    · simp [hx, hy, z0 x hx, z0 y hy]
theorem cnt_pos {a : List Str} {x : Str} : 0 < a.count x ↔ x ∈ a := List.count_pos_iff
theorem tl_gen {a b : List Str} (hb : inA b) {l x y M : Str} (hl : (l = ("a" : Str) ∧ x = ("b" : Str) ∧ y = ("c" : Str)) ∨ (l = ("b" : Str) ∧ x = ("a" : Str) ∧ y = ("c" : Str)) ∨ (l = ("c" : Str) ∧ x = ("a" : Str) ∧ y = ("b" : Str))) :
    Tl a l b M ↔ M = l ∧ ((b.count x = 0 ∨ 0 < a.count x) ∧ (b.count y = 0 ∨ 0 < a.count y)) ∧ b.count l + (pos (b.count x) (a.count x) + pos (b.count y) (a.count y)) ≤ a.count l := by
  have xy : l ≠ x ∧ l ≠ y ∧ (x = ("a" : Str) ∨ x = ("b" : Str) ∨ x = ("c" : Str)) ∧ (y = ("a" : Str) ∨ y = ("b" : Str) ∨ y = ("c" : Str)) ∧ ∀ z, (z = ("a" : Str) ∨ z = ("b" : Str) ∨ z = ("c" : Str)) → z ≠ l → z = x ∨ z = y := by
    obtain ⟨n1, n2, n3⟩ := ab_ne
    rcases hl with ⟨rfl, rfl, rfl⟩ | ⟨rfl, rfl, rfl⟩ | ⟨rfl, rfl, rfl⟩
    · exact ⟨n1, n2, .inr (.inl rfl), .inr (.inr rfl), fun z h q => h.elim (fun e => absurd e q) fun h => h⟩
    · exact ⟨n1.symm, n3, .inl rfl, .inr (.inr rfl), fun z h q => h.elim .inl fun h => h.elim (fun e => absurd e q) .inr⟩
    · exact ⟨n2.symm, n3.symm, .inl rfl, .inr (.inl rfl), fun z h q => h.elim .inl fun h => h.elim .inr fun e => absurd e q⟩
  obtain ⟨lx, ly, _, _, cov⟩ := xy
  unfold Tl
  rw [sum_oth hb hl]
  refine and_congr_right fun _ => and_congr ?_ ?_
  · constructor
    · intro h
      have one : ∀ z, z ≠ l → b.count z = 0 ∨ 0 < a.count z := fun z hz => by
        by_cases q : z ∈ b
        · exact .inr (cnt_pos.mpr (h z q hz))
        · exact .inl (List.count_eq_zero_of_not_mem q)
      exact ⟨one x lx.symm, one y ly.symm⟩
    · rintro ⟨h1, h2⟩ z hz hzl
      have hp := cnt_pos.mpr hz
      rcases cov z (hb z hz) hzl with rfl | rfl
      · exact cnt_pos.mp (by omega)
      · exact cnt_pos.mp (by omega)
  · unfold exc pos
    omega
theorem tl_kd {a b : List Str} {l m : Nat} (hb : inA b) (hl : l < 3) (hm : m < 3) : Tl a (lst l) b (lst m) ↔ tlC (kd a l) (kd b m) = true := by
  have mm : ∀ j, j < 3 → (lst m = lst j ↔ m = j) := fun j hj => ⟨lst_inj hm hj, fun e => by rw [e]⟩
  have : l = 0 ∨ l = 1 ∨ l = 2 := by omega
  rcases this with rfl | rfl | rfl
  · rw [tl_gen hb (l := lst 0) (x := "b") (y := "c") (.inl ⟨rfl, rfl, rfl⟩), mm 0 (by decide)]
    show _ ↔ (decide (m = 0) && ((decide (b.count ("b" : Str) = 0) || decide (0 < a.count ("b" : Str))) && (decide (b.count ("c" : Str) = 0) || decide (0 < a.count ("c" : Str))) && decide (b.count ("a" : Str) + (pos (b.count ("b" : Str)) (a.count ("b" : Str)) + pos (b.count ("c" : Str)) (a.count ("c" : Str))) ≤ a.count ("a" : Str)))) = true
    simp only [Bool.and_eq_true, Bool.or_eq_true, decide_eq_true_eq]
    exact Iff.rfl
  · rw [tl_gen hb (l := lst 1) (x := "a") (y := "c") (.inr (.inl ⟨rfl, rfl, rfl⟩)), mm 1 (by decide)]
    show _ ↔ (decide (m = 1) && ((decide (b.count ("a" : Str) = 0) || decide (0 < a.count ("a" : Str))) && (decide (b.count ("c" : Str) = 0) || decide (0 < a.count ("c" : Str))) && decide (b.count ("b" : Str) + (pos (b.count ("a" : Str)) (a.count ("a" : Str)) + pos (b.count ("c" : Str)) (a.count ("c" : Str))) ≤ a.count ("b" : Str)))) = true
    simp only [Bool.and_eq_true, Bool.or_eq_true, decide_eq_true_eq]
    exact Iff.rfl
  · rw [tl_gen hb (l := lst 2) (x := "a") (y := "b") (.inr (.inr ⟨rfl, rfl, rfl⟩)), mm 2 (by decide)]
    show _ ↔ (decide (m = 2) && ((decide (b.count ("a" : Str) = 0) || decide (0 < a.count ("a" : Str))) && (decide (b.count ("b" : Str) = 0) || decide (0 < a.count ("b" : Str))) && decide (b.count ("c" : Str) + (pos (b.count ("a" : Str)) (a.count ("a" : Str)) + pos (b.count ("b" : Str)) (a.count ("b" : Str))) ≤ a.count ("c" : Str)))) = true
    simp only [Bool.and_eq_true, Bool.or_eq_true, decide_eq_true_eq]
    exact Iff.rfl
/-- a drawn path -/
structure Ph (p : List Str) : Prop where
  ne : p ≠ []
  len : p.length ≤ 5
  sub : inA p
theorem Ph.split {p : List Str} (h : Ph p) : ∃ a l, p = a ++ [lst l] ∧ inA a ∧ a.length ≤ 4 ∧ l < 3 := by
  obtain ⟨a, x, rfl⟩ : ∃ a x, p = a ++ [x] := ⟨_, _, (List.dropLast_concat_getLast h.ne).symm⟩
  obtain ⟨l, hl, rfl⟩ := lst_of (h.sub x (List.mem_append_right _ (List.mem_singleton.mpr rfl)))
  have := h.len
  rw [List.length_append, List.length_singleton] at this
  exact ⟨a, l, rfl, fun y hy => h.sub y (List.mem_append_left _ hy), by omega, hl⟩
theorem due_is {p q : List Str} (hp : Ph p) (hq : Ph q) : f__law_due STA p q = f_path_tells p q := by
  obtain ⟨a, l, rfl, ha, la, hl⟩ := hp.split
  obtain ⟨b, m, rfl, hb, lb, hm⟩ := hq.split
  rw [Bool.eq_iff_iff, path_tells, tl_kd hb hl hm, ← pair_is (kd_mem ha la hl) (kd_mem hb lb hm)]
  unfold msk
  rw [land_bits, beq_iff_eq, bits_eq]
  unfold f__law_due
  rw [Bool.not_eq_true', List.any_map, List.any_eq_false]
  constructor
  · intro h s hs
    have := h s hs
    have e1 : endsF s (a ++ [lst l]) = endsF s (row (kd a l)) := ends_kd ha l
    have e2 : endsF s (b ++ [lst m]) = endsF s (row (kd b m)) := ends_kd hb m
    revert this
    show ¬ (endsF s (a ++ [lst l]) && !endsF s (b ++ [lst m])) = true → _
    rw [e1, e2]
    cases endsF s (row (kd a l)) <;> cases endsF s (row (kd b m)) <;> simp
  · intro h s hs
    have := h s hs
    have e1 : endsF s (a ++ [lst l]) = endsF s (row (kd a l)) := ends_kd ha l
    have e2 : endsF s (b ++ [lst m]) = endsF s (row (kd b m)) := ends_kd hb m
    show ¬ (endsF s (a ++ [lst l]) && !endsF s (b ++ [lst m])) = true
    rw [e1, e2]
    revert this
    cases endsF s (row (kd a l)) <;> cases endsF s (row (kd b m)) <;> simp
theorem sta_len : STA.length = 673 := by decide +kernel
theorem sta_keys : STA.all (fun s => (kget s.1 ("a" : Str)).isSome && ((kget s.1 ("b" : Str)).isSome && (kget s.1 ("c" : Str)).isSome)) = true := by decide +kernel
theorem ends_ok {s : Sta} (hs : s ∈ STA) {p : List Str} (hp : Ph p) : endsOk s p := by
  have k := List.all_eq_true.mp sta_keys s hs
  rw [Bool.and_eq_true, Bool.and_eq_true] at k
  refine ⟨hp.ne, by have := hp.len; omega, fun y hy => ?_⟩
  rcases hp.sub y ((List.dropLast_sublist p).subset hy) with rfl | rfl | rfl
  · exact k.1
  · exact k.2.1
  · exact k.2.2
end Q75
end
section
set_option maxRecDepth 1000000
namespace Q75
open PySem L2 DL
def isCk : Pg D → Bool
  | .ret d => ck75 d
  | _ => false
theorem sta_ok : isCk (F__law_states [eL eS abc, .int 5]) = true := by decide +kernel
end Q75
end
section
set_option Elab.async false
set_option linter.all false
set_option maxRecDepth 1000000
set_option maxHeartbeats 1000000
/-! k75: by hand, case by case -/
namespace Q75
open PySem DL L2
def isB (b : Bool) : Pg D → Bool
  | .ret (.bl c) => c == b
  | _ => false
theorem isB_is {b : Bool} {p : Pg D} (h : isB b p = true) : p = .ret (.bl b) := by
  unfold isB at h
  split at h
  · rw [eq_of_beq h]
  · cases h
theorem hcas0 : isB true (F__law_due [eL eSta STA, .str "aba", .str "bba"]) = true := by decide +kernel
theorem hcas1 : isB false (F__law_due [eL eSta STA, .str "bba", .str "aba"]) = true := by decide +kernel
theorem hcas2 : isB false (F__law_due [eL eSta STA, .str "ba", .str "bba"]) = true := by decide +kernel
theorem hcas3 : isB true (F__law_due [eL eSta STA, .str "bca", .str "cba"]) = true := by decide +kernel
theorem hcas4 : isB true (F__law_due [eL eSta STA, .str "abca", .str "bbca"]) = true := by decide +kernel
theorem hcas5 : isB false (F__law_due [eL eSta STA, .str "ab", .str "ba"]) = true := by decide +kernel
theorem hcas6 : isB true (F__law_due [eL eSta STA, .str "bcab", .str "ccab"]) = true := by decide +kernel
theorem hcas7 : isB false (F__law_due [eL eSta STA, .str "aab", .str "cab"]) = true := by decide +kernel
theorem hcas8 : isB false (F__law_due [eL eSta STA, .str "cab", .str "aab"]) = true := by decide +kernel
theorem hcas9 : isB true (F__law_due [eL eSta STA, .str "cca", .str "ca"]) = true := by decide +kernel
theorem hcas10 : isB true (F__law_due [eL eSta STA, .str "acca", .str "aa"]) = true := by decide +kernel
theorem hcas11 : isB true (F__law_due [eL eSta STA, .str "aaaa", .str "aaa"]) = true := by decide +kernel
theorem hcas12 : isB false (F__law_due [eL eSta STA, .str "c", .str "cc"]) = true := by decide +kernel
theorem hcas13 : isB true (F__law_due [eL eSta STA, .str "cc", .str "c"]) = true := by decide +kernel
theorem hcas14 : isB false (F__law_due [eL eSta STA, .str "ab", .str "a"]) = true := by decide +kernel
def casL : List (Str × Str) := [("aba", "bba"), ("bba", "aba"), ("ba", "bba"), ("bca", "cba"), ("abca", "bbca"), ("ab", "ba"), ("bcab", "ccab"), ("aab", "cab"), ("cab", "aab"), ("cca", "ca"), ("acca", "aa"), ("aaaa", "aaa"), ("c", "cc"), ("cc", "c"), ("ab", "a")]
def dueB (p : Str × Str) : Bool := if p = (("aba" : Str), ("bba" : Str)) then true else if p = (("bba" : Str), ("aba" : Str)) then false else if p = (("ba" : Str), ("bba" : Str)) then false else if p = (("bca" : Str), ("cba" : Str)) then true else if p = (("abca" : Str), ("bbca" : Str)) then true else if p = (("ab" : Str), ("ba" : Str)) then false else if p = (("bcab" : Str), ("ccab" : Str)) then true else if p = (("aab" : Str), ("cab" : Str)) then false else if p = (("cab" : Str), ("aab" : Str)) then false else if p = (("cca" : Str), ("ca" : Str)) then true else if p = (("acca" : Str), ("aa" : Str)) then true else if p = (("aaaa" : Str), ("aaa" : Str)) then true else if p = (("c" : Str), ("cc" : Str)) then false else if p = (("cc" : Str), ("c" : Str)) then true else if p = (("ab" : Str), ("a" : Str)) then false else false
theorem due_all : ∀ p ∈ casL, F__law_due [eL eSta STA, eS p.1, eS p.2] = .ret (eB (dueB p)) := fun p hp => by
  unfold casL at hp
  simp only [List.mem_cons, List.not_mem_nil, or_false] at hp
  rcases hp with rfl | rfl | rfl | rfl | rfl | rfl | rfl | rfl | rfl | rfl | rfl | rfl | rfl | rfl | rfl
  · exact isB_is hcas0
  · exact isB_is hcas1
  · exact isB_is hcas2
  · exact isB_is hcas3
  · exact isB_is hcas4
  · exact isB_is hcas5
  · exact isB_is hcas6
  · exact isB_is hcas7
  · exact isB_is hcas8
  · exact isB_is hcas9
  · exact isB_is hcas10
  · exact isB_is hcas11
  · exact isB_is hcas12
  · exact isB_is hcas13
  · exact isB_is hcas14
end Q75
end
section
set_option Elab.async false
set_option linter.all false
set_option maxRecDepth 1000000
set_option maxHeartbeats 1000000
namespace Q75
open PySem DL L2
theorem hand_gen (S : D) (hd : ∀ p ∈ casL, F__law_due [S, eS p.1, eS p.2] = .ret (eB (dueB p))) : F__law_by_hand_right [S] = .ret (.bl true) := by
  refine (runF_at [.v S, .e, .e, .e, .e] rfl rfl).trans ?_
  unfold B__law_by_hand_right
  have s0 : (tSet 1 (oV (cL (aL (aC (cTup (aC (cC (.str "aba")) (aC (cC (.str "bba")) aN))) (aC (cTup (aC (cC (.str "bba")) (aC (cC (.str "aba")) aN))) (aC (cTup (aC (cC (.str "ba")) (aC (cC (.str "bba")) aN))) (aC (cTup (aC (cC (.str "bca")) (aC (cC (.str "cba")) aN))) (aC (cTup (aC (cC (.str "abca")) (aC (cC (.str "bbca")) aN))) (aC (cTup (aC (cC (.str "ab")) (aC (cC (.str "ba")) aN))) (aC (cTup (aC (cC (.str "bcab")) (aC (cC (.str "ccab")) aN))) aN))))))))))) [.v S, .e, .e, .e, .e] = .ret (.nx [.v S, .v (eL (e2 eS eS) (casL.take 7)), .e, .e, .e]) := by kernel_rfl
  have s1 : (tSet 1 (oV (c2 addO (cVar 1) (cL (aL (aC (cTup (aC (cC (.str "aab")) (aC (cC (.str "cab")) aN))) (aC (cTup (aC (cC (.str "cab")) (aC (cC (.str "aab")) aN))) (aC (cTup (aC (cC (.str "cca")) (aC (cC (.str "ca")) aN))) (aC (cTup (aC (cC (.str "acca")) (aC (cC (.str "aa")) aN))) (aC (cTup (aC (cC (.str "aaaa")) (aC (cC (.str "aaa")) aN))) (aC (cTup (aC (cC (.str "c")) (aC (cC (.str "cc")) aN))) (aC (cTup (aC (cC (.str "cc")) (aC (cC (.str "c")) aN))) (aC (cTup (aC (cC (.str "ab")) (aC (cC (.str "a")) aN))) aN))))))))))))) [.v S, .v (eL (e2 eS eS) (casL.take 7)), .e, .e, .e] = .ret (.nx [.v S, .v (eL (e2 eS eS) casL), .e, .e, .e]) := by kernel_rfl
  have s2 : (tSet 2 (oV (cL (aL (aC (cC (.bl true)) (aC (cC (.bl false)) (aC (cC (.bl false)) (aC (cC (.bl true)) (aC (cC (.bl true)) (aC (cC (.bl false)) (aC (cC (.bl true)) (aC (cC (.bl false)) (aC (cC (.bl false)) (aC (cC (.bl true)) (aC (cC (.bl true)) (aC (cC (.bl true)) (aC (cC (.bl false)) (aC (cC (.bl true)) (aC (cC (.bl false)) aN))))))))))))))))))) [.v S, .v (eL (e2 eS eS) casL), .e, .e, .e] = .ret (.nx [.v S, .v (eL (e2 eS eS) casL), .v (eL eB [true, false, false, true, true, false, true, false, false, true, true, true, false, true, false]), .e, .e]) := by kernel_rfl
  have s3 : (tNot (tT (cCall (F__law_same 5) (aC (cL (aLc (.tp [ (.nm 3) , (.nm 4) ]) [3, 4] (aIt (cVar 1)) DL.tYes (cCall F_path_tells (aC (c1 tupO (cVw 3)) (aC (c1 tupO (cVw 4)) aN))))) (aC (cVar 2) aN))))) [.v S, .v (eL (e2 eS eS) casL), .v (eL eB [true, false, false, true, true, false, true, false, false, true, true, true, false, true, false]), .e, .e] = .ret false := by kernel_rfl
  have s4 : (cL (aLc (.tp [ (.nm 3) , (.nm 4) ]) [3, 4] (aIt (cVar 1)) DL.tYes (cCall F__law_due (aC (cVar 0) (aC (cVar 3) (aC (cVar 4) aN)))))) [.v S, .v (eL (e2 eS eS) casL), .v (eL eB [true, false, false, true, true, false, true, false, false, true, true, true, false, true, false]), .e, .e] = .ret (eL eB (casL.map dueB)) := q_cLL (q_lc0 (f := e2 eS eS) (g := eB) (q_itL (q_var rfl)) (lim_le (by decide)) fun p hp => ⟨_, rfl, q_call (q_aC (q_var rfl) (q_aC (q_var rfl) (q_aC (q_var rfl) q_aN))) (hd p hp)⟩)
  have s5 : (DL.tRet (c2 (eqO false) (cL (aLc (.tp [ (.nm 3) , (.nm 4) ]) [3, 4] (aIt (cVar 1)) DL.tYes (cCall F__law_due (aC (cVar 0) (aC (cVar 3) (aC (cVar 4) aN)))))) (cVar 2))) [.v S, .v (eL (e2 eS eS) casL), .v (eL eB [true, false, false, true, true, false, true, false, false, true, true, true, false, true, false]), .e, .e] = .ret (.rt (.bl true)) := z_ret (q_2 s4 (q_var rfl) (by kernel_rfl))
  have all : (DL.tSeq (tSet 1 (oV (cL (aL (aC (cTup (aC (cC (.str "aba")) (aC (cC (.str "bba")) aN))) (aC (cTup (aC (cC (.str "bba")) (aC (cC (.str "aba")) aN))) (aC (cTup (aC (cC (.str "ba")) (aC (cC (.str "bba")) aN))) (aC (cTup (aC (cC (.str "bca")) (aC (cC (.str "cba")) aN))) (aC (cTup (aC (cC (.str "abca")) (aC (cC (.str "bbca")) aN))) (aC (cTup (aC (cC (.str "ab")) (aC (cC (.str "ba")) aN))) (aC (cTup (aC (cC (.str "bcab")) (aC (cC (.str "ccab")) aN))) aN))))))))))) (DL.tSeq (tSet 1 (oV (c2 addO (cVar 1) (cL (aL (aC (cTup (aC (cC (.str "aab")) (aC (cC (.str "cab")) aN))) (aC (cTup (aC (cC (.str "cab")) (aC (cC (.str "aab")) aN))) (aC (cTup (aC (cC (.str "cca")) (aC (cC (.str "ca")) aN))) (aC (cTup (aC (cC (.str "acca")) (aC (cC (.str "aa")) aN))) (aC (cTup (aC (cC (.str "aaaa")) (aC (cC (.str "aaa")) aN))) (aC (cTup (aC (cC (.str "c")) (aC (cC (.str "cc")) aN))) (aC (cTup (aC (cC (.str "cc")) (aC (cC (.str "c")) aN))) (aC (cTup (aC (cC (.str "ab")) (aC (cC (.str "a")) aN))) aN))))))))))))) (DL.tSeq (tSet 2 (oV (cL (aL (aC (cC (.bl true)) (aC (cC (.bl false)) (aC (cC (.bl false)) (aC (cC (.bl true)) (aC (cC (.bl true)) (aC (cC (.bl false)) (aC (cC (.bl true)) (aC (cC (.bl false)) (aC (cC (.bl false)) (aC (cC (.bl true)) (aC (cC (.bl true)) (aC (cC (.bl true)) (aC (cC (.bl false)) (aC (cC (.bl true)) (aC (cC (.bl false)) aN))))))))))))))))))) (DL.tSeq (DL.tIf (tNot (tT (cCall (F__law_same 5) (aC (cL (aLc (.tp [ (.nm 3) , (.nm 4) ]) [3, 4] (aIt (cVar 1)) DL.tYes (cCall F_path_tells (aC (c1 tupO (cVw 3)) (aC (c1 tupO (cVw 4)) aN))))) (aC (cVar 2) aN))))) (DL.tRet (cC (.bl false))) DL.tNil) (DL.tRet (c2 (eqO false) (cL (aLc (.tp [ (.nm 3) , (.nm 4) ]) [3, 4] (aIt (cVar 1)) DL.tYes (cCall F__law_due (aC (cVar 0) (aC (cVar 3) (aC (cVar 4) aN)))))) (cVar 2))))))) [.v S, .e, .e, .e, .e] = .ret (.rt (.bl true)) := by
    refine z_seq (Δ1 := [.v S, .v (eL (e2 eS eS) (casL.take 7)), .e, .e, .e]) s0 (z_seq (Δ1 := [.v S, .v (eL (e2 eS eS) casL), .e, .e, .e]) s1 (z_seq (Δ1 := [.v S, .v (eL (e2 eS eS) casL), .v (eL eB [true, false, false, true, true, false, true, false, false, true, true, true, false, true, false]), .e, .e]) s2 (z_seq (Δ1 := [.v S, .v (eL (e2 eS eS) casL), .v (eL eB [true, false, false, true, true, false, true, false, false, true, true, true, false, true, false]), .e, .e]) ?_ s5)))
    show ((tNot (tT (cCall (F__law_same 5) (aC (cL (aLc (.tp [ (.nm 3) , (.nm 4) ]) [3, 4] (aIt (cVar 1)) DL.tYes (cCall F_path_tells (aC (c1 tupO (cVw 3)) (aC (c1 tupO (cVw 4)) aN))))) (aC (cVar 2) aN))))) _).bind _ = _
    rw [s3]; rfl
  rw [show _ = _ from all]
  rfl
theorem hand : F__law_by_hand_right [eL eSta STA] = .ret (.bl true) := hand_gen _ due_all
end Q75
end
section
set_option Elab.async false
set_option linter.all false
set_option maxRecDepth 1000000
set_option maxHeartbeats 1000000
namespace Q75
open PySem DL L2 Pk
theorem cut_end (a : List Str) (l : Str) : cutL (a ++ [l]) (some (-1 : Int)) none = [l] := by
  unfold cutL
  have e1 : HT.sIx (a ++ [l]).length 0 (some (-1)) = a.length := by
    unfold HT.sIx
    simp
    omega
  have e2 : HT.sIx (a ++ [l]).length (a ++ [l]).length none = a.length + 1 := by
    show (a ++ [l]).length = _
    rw [List.length_append, List.length_singleton]
  rw [e1, e2, List.drop_left, show a.length + 1 - a.length = 1 by omega]; rfl
theorem co_of {u : Unit} : Co true 1 (f__law_of u [("a" : Str), ("b" : Str), ("c" : Str)]) fun x => x = ("a" : Str) ∨ x = ("b" : Str) ∨ x = ("c" : Str) := by
  unfold f__law_of
  exact (co_one (u := u) (xs := [("a" : Str), ("b" : Str), ("c" : Str)]) (by simp) (by decide)).mono fun x hx => by
    simpa using hx
theorem co_trail {u : Unit} : Co true 10 (f__law_trail u [("a" : Str), ("b" : Str), ("c" : Str)] (5 : Int)) Ph := by
  unfold f__law_trail
  refine Co.le (c := 1 + 5) (Co.bind (co_drawI (by decide) (by decide) fun d d0 d1 => ?_)) (by omega)
  obtain ⟨k, rfl⟩ := Int.eq_ofNat_of_zero_le d0
  rw [show (1 : Int) + (k : Int) = ((1 + k : Nat) : Int) from by omega]
  refine Co.asr (inR_nat (by omega)) (Co.asr (by rw [len_rngI, Int.toNat_natCast]; exact lim_le (by omega)) ?_)
  have q := co_mapP (b := true) (n := 1) (e := fun (y10 : Int) => (((f__law_of u [("a" : Str), ("b" : Str), ("c" : Str)]).bind fun b11 => (.ret b11)) : Pg Str)) (P := fun x => x = ("a" : Str) ∨ x = ("b" : Str) ∨ x = ("c" : Str)) (rngI 0 (((1 + k : Nat) : Int)).toNat) fun x _ => Co.le (c := 1 + 0) (Co.bind (co_of.mono fun x hx => Co.ret hx)) (by omega)
  rw [len_rngI, Int.toNat_natCast] at q
  refine Co.le (c := (1 + k) * 1 + 0) (Co.bind (q.mono fun ys ⟨l, h⟩ => Co.ret ⟨fun e => by rw [e] at l; simp at l; omega, by omega, h⟩)) (by omega)
theorem right_one {p q : List Str} (hp : Ph p) (hq : Ph q) : (vc_path_tells p q ∧ vc__law_due STA p q) ∧ sameOk (eB (f_path_tells p q)) (eB (f__law_due STA p q)) := by
  refine ⟨⟨?_, lim_le (by rw [sta_len]; decide), fun s hs => ⟨ends_ok hs hp, fun _ => ends_ok hs hq⟩⟩, by rw [due_is hp hq], pl_bl⟩
  obtain ⟨a, l, rfl, ha, la, hl⟩ := hp.split
  obtain ⟨b, m, rfl, hb, lb, hm⟩ := hq.split
  exact ok_tells (by omega) (by omega)
theorem co_1 {u : Unit} {x : Int} : Co true 1000 (f__law_right_1 u STA () x) fun r => r = .inl () := by
  unfold f__law_right_1
  refine Co.le (c := 10 + 900) (Co.bind (co_trail.mono fun p hp => ?_)) (by omega)
  refine Co.le (c := 10 + 800) (Co.bind (co_trail.mono fun q hq => ?_)) (by omega)
  refine Co.le (c := 1 + 0) (Co.bind (Co.mono (k := Ph) ?_ fun z hz => ?_)) (by omega)
  · refine Co.le (c := 1 + 0) (Co.bind (co_drawI (by decide) (by decide) fun d d0 d1 => ?_)) (by omega)
    by_cases c : (0 : Int) < d
    · rw [if_pos (decide_eq_true c)]
      obtain ⟨a, l, rfl, ha, la, hl⟩ := hp.split
      obtain ⟨b, m, rfl, hb, lb, hm⟩ := hq.split
      rw [cut_end, List.dropLast_concat]
      refine Co.asr (lim_le (by rw [List.length_singleton]; omega)) (Co.ret ⟨by simp, by rw [List.length_append, List.length_singleton]; omega, fun y hy => ?_⟩)
      rcases List.mem_append.mp hy with hy | hy
      · exact hb y hy
      · exact hp.sub y (List.mem_append_right _ hy)
    · rw [if_neg (by rw [decide_eq_false c]; decide)]
      exact Co.ret hq
  · obtain ⟨a, b⟩ := right_one hp hz
    refine Co.asr ⟨a.1, a.2, b⟩ ?_
    rw [show ∀ a b : D, sameF a b = true from fun _ _ => rfl, if_neg (by decide)]
    exact Co.ret rfl
theorem co_right : Co true 20000 (f__law_right () STA) fun b => b = true := by
  unfold f__law_right
  refine Co.asr (inR_nat (n := 15) (by decide)) ?_
  have q := co_loop (b := true) (n := 1000) (step := f__law_right_1 () STA) (I := fun _ _ => True) (rngI 0 (15 : Int).toNat) 0 () trivial fun j z x _ => co_1.mono fun r hr => ⟨(), hr, trivial⟩
  rw [len_rngI] at q
  exact Co.le (c := 15 * 1000 + 0) (Co.bind (q.mono fun r ⟨z, hr, _⟩ => by subst hr; exact Co.ret rfl)) (by omega)
theorem right_ok : ∀ d, ck75 d = true → wpB true 1000000 (F__law_right [.cell 0, d]) fun d _ => d = .bl true := fun d hd => by
  rw [ck75_is hd]
  have h : Co true 20000 (F__law_right [.cell 0, eL eSta STA]) fun d => d = .bl true := Co.ref (t__law_right () STA) (Co.map (co_right.mono fun b hb => by rw [hb]))
  exact h.wp (by decide)
theorem states_is : ∃ d, F__law_states [.lst [.str "a", .str "b", .str "c"], .int 5] = .ret d ∧ ck75 d = true := by
  have h := sta_ok
  unfold isCk at h
  split at h
  · rename_i d e
    exact ⟨d, e, h⟩
  · cases h
theorem law_ok {ns : List Int} (hl : ns.length ≤ 63) : F_law [.frl (ns.map D.int)] = .ret (.bl true) := by
  obtain ⟨d, e1, e2⟩ := states_is
  have hd := ck75_is e2
  subst hd
  obtain ⟨cs, e, h0, h3⟩ := e_cells2 (t := 2) (by decide) (by decide) hl
  refine (runF_at [.v (.frl (ns.map D.int)), .e, .e, .e] rfl rfl).trans ?_
  unfold B_law
  have q1 : cCall F__law_states (aC (cL (aL (aC (cC (.str "a")) (aC (cC (.str "b")) (aC (cC (.str "c")) aN))))) (aC (cC (.int 5)) aN)) [.v (.frl (ns.map D.int)), .e, .e, .e] = .ret (eL eSta STA) := q_call (q_aC (q_cL (q_aL (q_aC q_C (q_aC q_C (q_aC q_C q_aN))))) (q_aC q_C q_aN)) e1
  have q2 : (tNot (tT (cCall F__law_by_hand_right (aC (cVar 1) aN)))) [.v (.frl (ns.map D.int)), .v (eL eSta STA), .e, .e] = .ret false := q_tNot (q_tT (q_call (q_aC (q_var rfl) q_aN) hand) rfl)
  have tail : (DL.tRet (c1 allO (cL (aLc (.nm 3) [3] (aRg1 (c1 lenO' (cVw 2))) DL.tYes (cBox2 ck75 (cVar 2) (cVar 3) (cVar 1)))))) [.v (.frl (ns.map D.int)), .v (eL eSta STA), .v (.lst (cs.map D.int)), .e] = .ret (.rt (.bl true)) := by
    refine z_ret ?_
    have q : (cL (aLc (.nm 3) [3] (aRg1 (c1 lenO' (cVw 2))) DL.tYes (cBox2 ck75 (cVar 2) (cVar 3) (cVar 1)))) [.v (.frl (ns.map D.int)), .v (eL eSta STA), .v (.lst (cs.map D.int)), .e] = .ret (eL eB ((rngI 0 (cs.length : Int).toNat).map fun _ => true)) := by
      refine q_cLL (q_lc0 (f := eI) (g := eB) (q_rg1 (q_1 (q_vw rfl) (o_lenL (f := D.int))) (inR_nat (by omega))) ?_ fun x hx => ⟨_, rfl, ?_⟩)
      · unfold rngI
        rw [List.length_map, List.length_range, lim]
        omega
      · unfold rngI at hx
        obtain ⟨i, hi, rfl⟩ := List.mem_map.mp hx
        have hi := List.mem_range.mp hi
        show (match unI (cs.map D.int) with
          | some ns => if (0 : Int) ≤ 0 + (i : Nat) ∧ (0 : Int) + (i : Nat) < ns.length ∧ (0 : Int) + (i : Nat) < 100 then (Pg.ret (eL eSta STA)).bind (fun c => if ck75 c = true then Pg.ret (D.bl true) else .fail) else .fail
          | none => .fail) = _
        rw [unI_map]
        refine (if_pos ⟨by omega, by omega, by omega⟩).trans ?_
        rw [bind_ret, if_pos e2]
    refine q_1 q (o_all.trans ?_)
    have : ∀ xs : List Int, (xs.map fun _ => true).all id = true := fun xs => by simp
    rw [this]
  have all : (DL.tSeq (tSet 1 (oV (cCall F__law_states (aC (cL (aL (aC (cC (.str "a")) (aC (cC (.str "b")) (aC (cC (.str "c")) aN))))) (aC (cC (.int 5)) aN))))) (DL.tSeq (DL.tIf (tNot (tT (cCall F__law_by_hand_right (aC (cVar 1) aN)))) (DL.tRet (cC (.bl false))) DL.tNil) (DL.tSeq (tSet 2 (oV (cCall F__law_cells (aC (cVar 0) (aC (cC (.int 2)) aN))))) (DL.tRet (c1 allO (cL (aLc (.nm 3) [3] (aRg1 (c1 lenO' (cVw 2))) DL.tYes (cBox2 ck75 (cVar 2) (cVar 3) (cVar 1))))))))) [.v (.frl (ns.map D.int)), .e, .e, .e] = .ret (.rt (.bl true)) := by
    refine z_seq (Δ1 := [.v (.frl (ns.map D.int)), .v (eL eSta STA), .e, .e]) (z_setO (o_v q1)) ?_
    refine z_seq (Δ1 := [.v (.frl (ns.map D.int)), .v (eL eSta STA), .e, .e]) ?_ ?_
    · show ((tNot (tT (cCall F__law_by_hand_right (aC (cVar 1) aN)))) _).bind _ = _
      rw [q2]; rfl
    · exact z_seq (Δ1 := [.v (.frl (ns.map D.int)), .v (eL eSta STA), .v (.lst (cs.map D.int)), .e]) (z_setO (o_v (q_call (q_aC (q_var rfl) (q_aC q_C q_aN)) e))) tail
  rw [show _ = _ from all]
  rfl
end Q75
end
section
set_option Elab.async false
set_option linter.all false
set_option maxRecDepth 100000
set_option maxHeartbeats 8000000
namespace Q75
open PySem PySem.W PySem.Calls PyProof.Rows L2 DL He He5
theorem top_ok {K : Frag} {h : Heap} {mg : PySem.Str → Option Value} (X : K.In h) (G : h.Ns mainGlobals mg) (c : SaysF fa fn K) : Top K mg :=
  { b_abs := free_ok X G (c.fact 18 (f := tFa (.free "abs"))),
    b_all := free_ok X G (c.fact 19 (f := tFa (.free "all"))),
    b_any := free_ok X G (c.fact 20 (f := tFa (.free "any"))),
    b_bool := free_ok X G (c.fact 21 (f := tFa (.free "bool"))),
    b_dict := free_ok X G (c.fact 22 (f := tFa (.free "dict"))),
    b_enumerate := free_ok X G (c.fact 23 (f := tFa (.free "enumerate"))),
    b_int := free_ok X G (c.fact 24 (f := tFa (.free "int"))),
    b_isinstance := free_ok X G (c.fact 25 (f := tFa (.free "isinstance"))),
    b_len := free_ok X G (c.fact 26 (f := tFa (.free "len"))),
    b_list := free_ok X G (c.fact 27 (f := tFa (.free "list"))),
    b_max := free_ok X G (c.fact 28 (f := tFa (.free "max"))),
    b_range := free_ok X G (c.fact 29 (f := tFa (.free "range"))),
    b_sorted := free_ok X G (c.fact 30 (f := tFa (.free "sorted"))),
    b_str := free_ok X G (c.fact 31 (f := tFa (.free "str"))),
    b_sum := free_ok X G (c.fact 32 (f := tFa (.free "sum"))),
    b_tuple := free_ok X G (c.fact 33 (f := tFa (.free "tuple"))),
    b_zip := free_ok X G (c.fact 34 (f := tFa (.free "zip"))) }
section
variable {P : Program} {w : World} {K : Frag} {h base : Heap} {mg : PySem.Str → Option Value} {f : Addr} {fd : FuncData}
end
theorem law_fn {P : Program} {w : World} {K : Frag} {h : Heap} {mg : PySem.Str → Option Value} (X : K.In h) (G : h.Ns mainGlobals mg) (c : SaysF fa fn K) :
    ∃ fd, FnD K "law" "law" s_law [] (gA "law" K) fd ∧ ∀ base : Heap, FnOk P w K mg base CX0 9 (gA "law" K) fd ["_law_script"] (spOf K (spW (gam K) [] F_law)) := by
  have T := top_ok X G c
  obtain ⟨fd_tupled, Fn_tupled⟩ := c.def_ 0
  obtain ⟨fd_often_above, Fn_often_above⟩ := c.def_ 1
  obtain ⟨fd_more_above, Fn_more_above⟩ := c.def_ 2
  obtain ⟨fd_path_tells, Fn_path_tells⟩ := c.def_ 3
  obtain ⟨fd__law_box, Fn__law_box⟩ := c.def_ 4
  obtain ⟨fd__law_take, Fn__law_take⟩ := c.def_ 5
  obtain ⟨fd__law_cells, Fn__law_cells⟩ := c.def_ 6
  obtain ⟨fd__law_of, Fn__law_of⟩ := c.def_ 7
  obtain ⟨fd__law_same, Fn__law_same⟩ := c.def_ 8
  obtain ⟨fd__law_trail, Fn__law_trail⟩ := c.def_ 9
  obtain ⟨fd__law_ends, Fn__law_ends⟩ := c.def_ 10
  obtain ⟨fd__law_states, Fn__law_states⟩ := c.def_ 11
  obtain ⟨fd__law_lots, Fn__law_lots⟩ := c.def_ 12
  obtain ⟨fd__law_parts, Fn__law_parts⟩ := c.def_ 13
  obtain ⟨fd__law_due, Fn__law_due⟩ := c.def_ 14
  obtain ⟨fd__law_by_hand_right, Fn__law_by_hand_right⟩ := c.def_ 15
  obtain ⟨fd__law_right, Fn__law_right⟩ := c.def_ 16
  obtain ⟨fd_law, Fn_law⟩ := c.def_ 17
  refine ⟨_, Fn_law, fun base => ?_⟩
  have C__law_take : Cal P w K mg base "_law_take" 1 (spW (gam K) [] takeP) := ⟨_, _, _, take_ok (ok__law_take T Fn__law_take), (glo_ok X G (c.fact 5 (f := tFa (.glo "_law_take")))), Fn__law_take.kp, (FunD.bindsN (ps := ["_law_urn", "_law_low_so"]) Fn__law_take fun _ _ _ _ _ _ us hl => match us, hl with | [_, _], _ => rfl)⟩
  have C_box : Cal P w K mg base "_law_box" 1 spBox := ⟨_, _, _, ok__law_box T Fn__law_box, (glo_ok X G (c.fact 4 (f := tFa (.glo "_law_box")))), Fn__law_box.kp, (FunD.bindsN (ps := ["_law_script", "_law_k"]) Fn__law_box fun _ _ _ _ _ _ us hl => match us, hl with | [_, _], _ => rfl)⟩
  have C_tupled : Cal P w K mg base "tupled" 6 (spW (gam K) [] (F_tupled 5)) := ⟨_, _, _, ok_tupled T Fn_tupled (glo_ok X G (c.fact 0 (f := tFa (.glo "tupled")))) (FunD.bindsN (ps := ["thing"]) Fn_tupled fun _ _ _ _ _ _ us hl => match us, hl with | [_], _ => rfl) 5, (glo_ok X G (c.fact 0 (f := tFa (.glo "tupled")))), Fn_tupled.kp, (FunD.bindsN (ps := ["thing"]) Fn_tupled fun _ _ _ _ _ _ us hl => match us, hl with | [_], _ => rfl)⟩
  have C_often_above : Cal P w K mg base "often_above" 1 (spW (gam K) [] F_often_above) := ⟨_, _, _, ok_often_above T Fn_often_above, (glo_ok X G (c.fact 1 (f := tFa (.glo "often_above")))), Fn_often_above.kp, (FunD.bindsN (ps := ["path"]) Fn_often_above fun _ _ _ _ _ _ us hl => match us, hl with | [_], _ => rfl)⟩
  have C_more_above : Cal P w K mg base "more_above" 1 (spW (gam K) [] F_more_above) := ⟨_, _, _, ok_more_above T Fn_more_above, (glo_ok X G (c.fact 2 (f := tFa (.glo "more_above")))), Fn_more_above.kp, (FunD.bindsN (ps := ["mine", "its", "last"]) Fn_more_above fun _ _ _ _ _ _ us hl => match us, hl with | [_, _, _], _ => rfl)⟩
  have C_path_tells : Cal P w K mg base "path_tells" 7 (spW (gam K) [] F_path_tells) := ⟨_, _, _, ok_path_tells T C_more_above C_often_above C_tupled Fn_path_tells, (glo_ok X G (c.fact 3 (f := tFa (.glo "path_tells")))), Fn_path_tells.kp, (FunD.bindsN (ps := ["path", "other"]) Fn_path_tells fun _ _ _ _ _ _ us hl => match us, hl with | [_, _], _ => rfl)⟩
  have C__law_cells : Cal P w K mg base "_law_cells" 1 (spW (gam K) [] F__law_cells) := ⟨_, _, _, ok__law_cells T Fn__law_cells, (glo_ok X G (c.fact 6 (f := tFa (.glo "_law_cells")))), Fn__law_cells.kp, (FunD.bindsN (ps := ["_law_script", "_law_top"]) Fn__law_cells fun _ _ _ _ _ _ us hl => match us, hl with | [_, _], _ => rfl)⟩
  have C__law_of : Cal P w K mg base "_law_of" 2 (spW (gam K) [false, true] F__law_of) := ⟨_, _, _, ok__law_of T C__law_take Fn__law_of, (glo_ok X G (c.fact 7 (f := tFa (.glo "_law_of")))), Fn__law_of.kp, (FunD.bindsN (ps := ["_law_urn", "_law_some_so"]) Fn__law_of fun _ _ _ _ _ _ us hl => match us, hl with | [_, _], _ => rfl)⟩
  have C__law_same : Cal P w K mg base "_law_same" 6 (spW (gam K) [] (F__law_same 5)) := ⟨_, _, _, ok__law_same T Fn__law_same (glo_ok X G (c.fact 8 (f := tFa (.glo "_law_same")))) (FunD.bindsN (ps := ["_law_got", "_law_goal"]) Fn__law_same fun _ _ _ _ _ _ us hl => match us, hl with | [_, _], _ => rfl) 5, (glo_ok X G (c.fact 8 (f := tFa (.glo "_law_same")))), Fn__law_same.kp, (FunD.bindsN (ps := ["_law_got", "_law_goal"]) Fn__law_same fun _ _ _ _ _ _ us hl => match us, hl with | [_, _], _ => rfl)⟩
  have C__law_trail : Cal P w K mg base "_law_trail" 3 (spW (gam K) [] F__law_trail) := ⟨_, _, _, ok__law_trail T C__law_of C__law_take Fn__law_trail, (glo_ok X G (c.fact 9 (f := tFa (.glo "_law_trail")))), Fn__law_trail.kp, (FunD.bindsN (ps := ["_law_urn", "_law_tags", "_law_most_so"]) Fn__law_trail fun _ _ _ _ _ _ us hl => match us, hl with | [_, _, _], _ => rfl)⟩
  have C__law_ends : Cal P w K mg base "_law_ends" 1 (spW (gam K) [] F__law_ends) := ⟨_, _, _, ok__law_ends T Fn__law_ends, (glo_ok X G (c.fact 10 (f := tFa (.glo "_law_ends")))), Fn__law_ends.kp, (FunD.bindsN (ps := ["_law_state_so", "_law_row"]) Fn__law_ends fun _ _ _ _ _ _ us hl => match us, hl with | [_, _], _ => rfl)⟩
  have C__law_parts : Cal P w K mg base "_law_parts" 1 (spW (gam K) [] F__law_parts) := ⟨_, _, _, ok__law_parts T Fn__law_parts, (glo_ok X G (c.fact 13 (f := tFa (.glo "_law_parts")))), Fn__law_parts.kp, (FunD.bindsN (ps := ["_law_some"]) Fn__law_parts fun _ _ _ _ _ _ us hl => match us, hl with | [_], _ => rfl)⟩
  have C__law_lots : Cal P w K mg base "_law_lots" 1 (spW (gam K) [] F__law_lots) := ⟨_, _, _, ok__law_lots T Fn__law_lots, (glo_ok X G (c.fact 12 (f := tFa (.glo "_law_lots")))), Fn__law_lots.kp, (FunD.bindsN (ps := ["_law_tags", "_law_kept_so", "_law_height_so", "_law_levels_so"]) Fn__law_lots fun _ _ _ _ _ _ us hl => match us, hl with | [_, _, _, _], _ => rfl)⟩
  have C__law_states : Cal P w K mg base "_law_states" 2 (spW (gam K) [] F__law_states) := ⟨_, _, _, ok__law_states T C__law_lots C__law_parts Fn__law_states, (glo_ok X G (c.fact 11 (f := tFa (.glo "_law_states")))), Fn__law_states.kp, (FunD.bindsN (ps := ["_law_tags", "_law_deep_so"]) Fn__law_states fun _ _ _ _ _ _ us hl => match us, hl with | [_, _], _ => rfl)⟩
  have C__law_due : Cal P w K mg base "_law_due" 2 (spW (gam K) [] F__law_due) := ⟨_, _, _, ok__law_due T C__law_ends Fn__law_due, (glo_ok X G (c.fact 14 (f := tFa (.glo "_law_due")))), Fn__law_due.kp, (FunD.bindsN (ps := ["_law_states_so", "_law_row", "_law_far"]) Fn__law_due fun _ _ _ _ _ _ us hl => match us, hl with | [_, _, _], _ => rfl)⟩
  have C__law_by_hand_right : Cal P w K mg base "_law_by_hand_right" 8 (spW (gam K) [] F__law_by_hand_right) := ⟨_, _, _, ok__law_by_hand_right T C__law_due C__law_same C_path_tells Fn__law_by_hand_right, (glo_ok X G (c.fact 15 (f := tFa (.glo "_law_by_hand_right")))), Fn__law_by_hand_right.kp, (FunD.bindsN (ps := ["_law_states_so"]) Fn__law_by_hand_right fun _ _ _ _ _ _ us hl => match us, hl with | [_], _ => rfl)⟩
  have C__law_right : Cal P w K mg base "_law_right" 8 (spW (gam K) [] F__law_right) := ⟨_, _, _, ok__law_right T C__law_due C__law_same C__law_take C__law_trail C_path_tells Fn__law_right, (glo_ok X G (c.fact 16 (f := tFa (.glo "_law_right")))), Fn__law_right.kp, (FunD.bindsN (ps := ["_law_urn", "_law_states_so"]) Fn__law_right fun _ _ _ _ _ _ us hl => match us, hl with | [_, _], _ => rfl)⟩
  exact ok_law T C__law_by_hand_right C__law_cells C__law_right C__law_states C_box right_ok Fn_law
theorem law_sp {K : Frag} {H : Hp} {a : Addr} {ns : List Int} (hl : ns.length ≤ 63) (hS : SqL K H a (ns.map V.int)) : spOf K (spW (gam K) [] F_law) [.ref a] H (fun v _ => v = .bl true) (fun _ _ _ => False) := by
  refine ⟨[.frl (ns.map D.int)], H, fun _ => none, fun d _ => d = .bl true, ?_, ⟨?_, ?_⟩, ⟨false, (0, 0), [.frl (ns.map D.int)], 0, ?_, ?_, ?_⟩, ?_⟩
  · exact IsL.cons (by unfold Is; exact ⟨a, _, rfl, hS, (IsL.ints ns).2 rfl⟩) IsL.nil
  · exact fun _ _ h => .inl h
  · intro a m h; cases h
  · show [D.frl (ns.map D.int)] = rnL _ [D.frl (ns.map D.int)]
    simp only [rnL, rn, rn_ints]
  · exact fun h => by cases h
  · rw [law_ok hl]
    exact fun _ _ => rfl
  · intro d M' F' H' v hk _ _ his
    subst hk
    exact is_bl.1 his
end Q75
end
set_option Elab.async false
set_option linter.all false
set_option maxRecDepth 100000
set_option maxHeartbeats 0
open PySem PySem.W PySem.Calls PyProof.Rows
theorem PySem.Challenge.cw_deepcuts_k75_whole_for_all_that_can_be_d_holds : PySem.Challenge.rw_deepcuts_k75_whole_for_all_that_can_be_d.Holds := by
  w_on; o_law
  refine HandSHeadRun.head_any (r := OpenLaw.row PySem.Challenge.rw_deepcuts_k75_whole_for_all_that_can_be_d) (q := view (OpenLaw.row PySem.Challenge.rw_deepcuts_k75_whole_for_all_that_can_be_d).prog [20]) (H := Q75.hk) (ob := Q75.ob) (M := 8000) (loose := Q75.loose) (d := HandSHeadRun.topDef (OpenLaw.row PySem.Challenge.rw_deepcuts_k75_whole_for_all_that_can_be_d).prog 20) (kwd := []) Q75.ob_eq
    (by kernel_rfl) (fun s => by kernel_rfl) Q75.run (by kernel_rfl) (by kernel_rfl) (by kernel_rfl) (by rfl) (by first | assumption | decide +kernel) (by decide +kernel) ⟨rfl, rfl, rfl, rfl, rfl, by decide +kernel⟩ ?hw ?hc
  case hw => w_witness2
  case hc =>
    refine L2.walk_ofE (l := PySem.Challenge.rw_deepcuts_k75_whole_for_all_that_can_be_d) (n := 63) (k := 9) (x := "_law_script") (CX := L2.CX0) rfl (by decide) (by kernel_rfl) ⟨rfl, by decide, by decide⟩ ?F (fun _ _ _ _ z => z)
    intro w mg fa h Y G hmg0
    obtain ⟨K, KX, c⟩ := Y
    have hmg : mg ("law" : PySem.Str) = some (.ref fa) := by
      have e : (HandSHeadRun.topDef (OpenLaw.row PySem.Challenge.rw_deepcuts_k75_whole_for_all_that_can_be_d).prog 20).name = ("law" : PySem.Str) := by kernel_rfl
      rw [← e]
      exact hmg0
    have e := hmg.symm.trans (He.glo_ok KX G (c.fact 17 (f := DL.tFa (.glo "law"))))
    cases e
    obtain ⟨fd, Fn, hF⟩ := Q75.law_fn (P := (PySem.Challenge.rw_deepcuts_k75_whole_for_all_that_can_be_d).prog) (w := w) KX G c
    have b := L2.FunD.bindsA (ps := ["_law_script"]) Fn fun _ _ _ _ _ _ us hl => match us, hl with | [_], _ => rfl
    exact ⟨K, fd, _, KX, fun s v => b s [v] rfl, fun H a ns hl _ hS => Q75.law_sp hl hS, fun base _ _ => hF base⟩
